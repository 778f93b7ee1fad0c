import PyProof.Rows.All
import Wide.All
import OpenK.AllK
import Wide.FinOn
import HandS.ForMost
import HandS.ForExc
import HandS.Flow
import HandS.Wide
import HandS.IsInst
import HandS.ExcCtx
import HandS.HotCalls
import HandS.ExcInit
import HandS.ExcField
import HandS.ExcIs
import HandS.WrittenGet
import HandS.HeadHook4
import HandS.HeadEnd
import HandS.HeadWalk
import HandS.Head2
import HandS.Codes
import HandS.Steps
import HandS.SortInts
import HandS.ExcInitHot
import HandS.Conv
import HandS.Iter
import HandS.Style
import HandS.Zip
import HandS.More
import HandS.FStr
import HandS.RaiseMore
import HandS.Text
import PySem.Challenge.RW_toldoutside_k35_texts_of_codes
import HandS.Zip0
import PyProof.Draws
import HandS.Comp
import HandS.TupAny
set_option Elab.async false
set_option linter.all false
set_option maxRecDepth 100000
set_option maxHeartbeats 4000000
/-! CmA: operators that take any kind of value, own errors with an __init__, what a suite's callee sees of the error. -/
namespace L3
open PySem PySem.Spec PyProof.Rows L2

/-! ### operators by any values: one rule a sign, the value tells which way -/
section
variable {X : Cx}
/-- a + b: ints, new lists, texts, tuples -/
def rPlus (K : PySem.W.Frag) : R2 := fun x y H Q => rI0 (fun i j => .int (i + j)) x y H Q ∨ rCat x y H Q ∨ (∃ i j, x = .str i ∧ y = .str j ∧ i.length + j.length ≤ sizeLine ∧ Q (.str (i ++ j)) H)
theorem op_plus : OpR X (binaryOp .Add) (rPlus X.K) := OpR.or op_add (OpR.or op_cat op_add_str)
/-- a * b: wide ints, a list so many times -/
def rTimes : R2 := fun x y H Q => rI CMulW (fun i j => .int (i * j)) x y H Q ∨ rRep x y H Q
theorem op_times : OpR X (binaryOp .Mult) rTimes := OpR.or op_mulW op_rep
/-- a == b, a != b: scalars, data of any depth -/
def rSame (K : PySem.W.Frag) : R2 := fun x y H Q => rEq x y H Q ∨ rEqD K x y H Q
theorem op_same (hu : X.A.units + 64 < cLine) : OpR X (compareOp .Eq) (rSame X.K) := OpR.or op_eq (op_eqD hu)
def rOther (K : PySem.W.Frag) : R2 := fun x y H Q => rNe x y H Q ∨ rNeD K x y H Q
theorem op_other (hu : X.A.units + 64 < cLine) : OpR X (compareOp .NotEq) (rOther X.K) := OpR.or op_ne (op_neD hu)
/-- x[i] of a list, a tuple -/
def rAt (K : PySem.W.Frag) : R2 := fun x y H Q => rIxL K x y H Q ∨ rIxT K x y H Q
theorem ix_at : IxR X (rAt X.K) := IxR.or ix_list ix_tup
end
theorem hu64 {A : Around} {k : Nat} (hr : Room k A) : A.units + 64 < cLine := by have := hr.un; omega
theorem hu1 {A : Around} {k : Nat} (hr : Room k A) : A.units + 1 < cLine := by have := hr.un; omega
end L3
set_option maxRecDepth 100000
set_option maxHeartbeats 4000000
namespace L3
open PySem PySem.Spec PyProof.Rows L2

/-! ### C(e, ..) for an own error class with its own __init__, where the maker's context is None (nothing is handled) -/
theorem pmk_err {X : Cx} {CX : CXT} {x : Str} {e : Expr} {es : List Expr} {ta : TA} {p pos : Pos} {C fI : Addr} {k : Nat} {fd : FuncData} {ps : List Str} {sp : Sp} (T : OexC X.K C)
    (iC : PySem.W.findIn X.K (.ref C) "__init__" = some (some (.ref fI))) (tI : PySem.W.typeIn X.K (.ref fI) = some (.type "function"))
    (F1 : FnOk X.prog X.w X.K X.mg X.base CX k fI fd ps sp) (hr : Room (k + 1) X.A) (hb : Binds X.K fd ps []) (hx : Passes CX X (fun _ _ _ => False)) (hg : Gl X x) (hm : X.mg x = some (.ref C)) (ha : PA X (e :: es) ta)
    (hdb : (x == ("__debug__" : Str)) = false := by decide) (he : starEach (e :: es) X.env = (false, eval e X.env) :: starEach es X.env := by rfl) (hpl : (backTo pos (starEach es X.env)).any (·.1) = false := by rfl) :
    L2N.PMk X (.Call (.Name x p) (e :: es) [] pos) (tMkO C sp [] ta) := by
  intro pins s σ H Q I h
  have TC := T.cls
  obtain ⟨nm, q, N, bs, bm, sn, sub, ab, col, dd, k0, k1, k2, k3, k5, hC, hbm⟩ := TC
  refine wpAny_Call_Name_kw (ld_glob I hg hm ?_ hdb)
  have arg := ha.run pos pins s σ H _ I h
  refine PySem.W.callWith_K (h₀ := X.base) I.ok.mod.kin T.kC (thn arg fun us s1 hh => ?_) he hpl
  obtain ⟨vs, H1, I1, r1, hz, q1⟩ := hh
  refine ⟨I1.kIn, ?_⟩
  show wpAny _ _ (call (.ref C) us) _ _ _
  obtain ⟨hp, g, dr, tk, os⟩ := s1
  have below : hp.objs.size ≤ hp.objs.size + 1 := Nat.le_succ _
  have fresh : H1 (hp.objs.size + 1) = none := I1.hok.fresh below
  have wish := q1 (hp.objs.size + 1) fresh
  have old : ∀ b o, hp.get? b = some o → ((hp.push (PySem.W.kdv_tup us)).push (PySem.HandSPX.excO C hp.objs.size)).get? b = some o := fun b o e => Heap.get?_push_of_some _ (Heap.get?_push_of_some _ e)
  have there : ((hp.push (PySem.W.kdv_tup us)).push (PySem.HandSPX.excO C hp.objs.size)).get? (hp.objs.size + 1) = some (PySem.HandSPX.excO C hp.objs.size) := by heap_get
  have I2 : Inv X pins σ (upd H1 (hp.objs.size + 1) (exo (hp.objs.size + 1) C none)) ⟨(hp.push (PySem.W.kdv_tup us)).push (PySem.HandSPX.excO C hp.objs.size), g, dr, tk, os⟩ :=
    I1.laid (t' := tk) (a := hp.objs.size + 1) (o := exo (hp.objs.size + 1) C none) old below (exo_ok there)
  have r2 : Vals (V.ref (hp.objs.size + 1) :: (vs ++ [])) (Value.ref (hp.objs.size + 1) :: (us ++ [])) := .cons rfl (r1.append .nil)
  have len : (Value.ref (hp.objs.size + 1) :: us ++ []).length = ps.length := ((F1.len _ _ _ _ wish).symm.trans r2.length).symm
  have few : us.length ≤ sizeLine := by
    rw [← Paired.length r1, sizeLine_eq]
    omega
  have init := F1.run _ X.stack _ _ ⟨Value.ref (hp.objs.size + 1) :: us, []⟩ (Value.ref (hp.objs.size + 1) :: (us ++ [])) _ _ (fun _ _ _ => False) (hr.make C us []) (I2.env0.make C us [])
    (by have z := hb _ (Value.ref (hp.objs.size + 1) :: us) I2.kIn len; rw [List.cons_append] at z; exact z) r2 wish
  refine wpAny_call (PySem.HandSPX.call_own F.excBase_ValueError (fun Y => PySem.HandSPX.refsVE_contains Y bm hbm) (I1.kIn _ _ hC) (PySem.W.looks_findIn I1.kIn iC) (fun self => PySem.W.bind_fn I1.kIn self tI) few
    (codeAny_mono init fun r s' z => ?_))
  cases r with
  | error er => exact hx pins σ _ _ er s' I2 z
  | ok fl =>
    cases fl with
    | ret u =>
      obtain ⟨v, H2, os2, bare2, un2, hok2, rv, ev, d, fs, ea, ed, hd1, q2⟩ := z
      subst ev
      obtain ⟨h2, g2, d2, t2, os'⟩ := s'
      obtain ⟨t0, G, J, kG, ge, hoe, na⟩ := mk_end0 (d2 := d2) (t2 := t2) I1 below old un2 hok2 os2 bare2 ea ed hd1
      refine ⟨rv, ⟨hp.objs.size + 1, _, _, ⟨G, g2, d2, t2, os'⟩, _, .ref C, some d, rfl, J, kG, ge, hoe, ⟨rfl, rfl, fun vs hv => ?_⟩, rfl, rfl, na, rfl, bare2, raises_own T.exC T.tyC, q2⟩⟩
      cases hv
      rfl
    | next => exact z.elim
    | brk => exact z.elim
    | cont => exact z.elim

/-! ### a def called in a suite, the handled error p among its arguments: the promise may speak of p -/
abbrev SpP := Addr × Obj → Sp
structure FnP (P : Program) (w : World) (K : PySem.W.Frag) (mg : Str → Option Value) (base : Heap) (CX : CXT) (k : Nat) (f : Addr) (fd : FuncData) (ps : List Str) (sp : SpP) : Prop where
  len : ∀ p vs H Q E, sp p vs H Q E → vs.length = ps.length
  run : ∀ (p : Addr × Obj) (A : Around) (outer : List Env) (s : Shared) (H : Hp) (args : Args) (us : List Value) (vs : List V) (Q : VK) (E : XK), L2H.RoomH k A → L2H.Hot1 A p → L2H.PinOk outer H s p → Env0 P w K mg base A outer s H →
    BindsTo s fd args (ps.zip us) → Vals vs us → sp p vs H Q E → codeAny (model P w) A (.call (.ref f) args) (CR CX outer P w H s Q E) s
/-- a body by its reading, p at hand -/
theorem fnP_of {CX : CXT} {P : Program} {w : World} {K : PySem.W.Frag} {mg : Str → Option Value} {base : Heap} {k : Nat} {f : Addr} {name qual : Str} {params : Arguments} {body : List Stmt} {scope : Scope} {fd : FuncData} {N ps : List Str} {sp : SpP}
    (FD : FunD K name qual params body scope [] [] f fd) (S : FnScope N ps scope) (len : ∀ p vs H Q E, sp p vs H Q E → vs.length = ps.length)
    (hbody : ∀ (p : Addr × Obj) (cdv : Value) (A : Around) (outer : List Env) (s : Shared) (H : Hp) (vs : List V) (Q : VK) (E : XK), L2H.Hot1 A p → L2H.RoomH k (A.deeper (envOfC qual scope s.heap.objs.size f cdv)) → sp p vs H Q E →
      ∃ t, PSs (L2H.cxH CX P w K mg base N qual scope f cdv A outer s H E p) body t ∧ t { nx := fun _ H' => Q .non H', rt := Q } (L2.start N vs) H) :
    FnP P w K mg base CX (k + 1) f fd ps sp := by
  obtain ⟨oc, od, dV, kV, doc, pm, an, cdv, ct, osl, rfl, lk, hcd, _, _⟩ := FD.ex
  refine ⟨len, fun p A outer s H args us vs Q E hr hot hpin e0 hb r hsp => ?_⟩
  -- for this p alone the library's hot promise
  let sq : Sp := fun vs' H' Q' E' => vs' = vs ∧ H' = H ∧ Q' = Q ∧ E' = E
  have hl := len _ _ _ _ _ hsp
  have KX : K.In s.heap := e0.mod.kin.keeps fun b o e => (e0.bs b o e).1
  have lim : s.heap.NoLimit := e0.mod.nolimit.keeps fun b o e => (e0.bs b o e).1
  have kinds : ∀ y ∈ ps.zip us, scope.names.lookup y.1 = some .local ∨ (scope.names.lookup y.1 = some .cell ∧ ((cellsFrom (s.heap.objs.size + 1) scope.names []).lookup y.1).isSome = true) := fun ⟨n, v⟩ hy =>
    (S.par n (List.of_mem_zip hy).1).elim Or.inl fun q => Or.inr ⟨q, PySem.W.cellsFrom_some _ _ _ (Or.inl q)⟩
  refine codeAny_call_function hr.depth (KX _ _ lk) rfl S.co S.gen rfl (PySem.W.codeRec_of KX hcd) (hb _ _ _ _ ?_)
  refine wpAny_newFunctionEnv_cells S.kind kinds fun env he s1 x => ?_
  subst he
  refine ⟨lim.keeps x.toInCall.keep, codeAny_func ?_⟩
  obtain ⟨t, ht, hq⟩ := hbody p cdv A outer s H vs Q E hot (hr.deeper _) hsp
  have I := L2H.inv_startH (CX := CX) (E := E) S hpin e0 hl r x
  refine wpAny_mono (ht.run [] s1 (L2.start N vs) H _ I hq) (fun fl s' hs => ?_) fun e s' hs => hs
  cases fl with
  | ret u =>
    obtain ⟨v, σ', H', J, rv, q⟩ := hs
    exact ⟨v, H', J.os, J.bare, J.base, J.hok, rv, q⟩
  | next =>
    obtain ⟨σ', H', J, q⟩ := hs
    exact ⟨V.non, H', J.os, J.bare, J.base, J.hok, rfl, q⟩
  | brk =>
    obtain ⟨_, _, _, q⟩ := hs
    exact q.elim
  | cont =>
    obtain ⟨_, _, _, q⟩ := hs
    exact q.elim
/-- the call in the suite: f(e, ..), the error's object known -/
theorem pe_callP {X : Cx} {CX : CXT} {k : Nat} {f : Addr} {fd : FuncData} {ps : List Str} {sp : SpP} {E : L2.St → XK} {x : Str} {q pos : Pos} {e : Expr} {es : List Expr} {t : TA} {p : Addr × Obj}
    (FP : FnP X.prog X.w X.K X.mg X.base CX k f fd ps sp) (hr : L2H.RoomH k X.A) (hot : L2H.Hot1 X.A p) (hp : p ∈ X.pn) (hg : Gl X x) (hm : X.mg x = some (.ref f)) (hk : PySem.W.keepIn X.K (.ref f) = true) (hb : Binds X.K fd ps [])
    (hx : ∀ σ, PassesAt CX X σ (E σ)) (ha : PA X (e :: es) t) (hdb : (x == ("__debug__" : Str)) = false := by decide) (he : starEach (e :: es) X.env = (false, eval e X.env) :: starEach es X.env := by rfl)
    (hpl : (backTo pos (starEach es X.env)).any (·.1) = false := by rfl) : PE X (.Call (.Name x q) (e :: es) [] pos) (tCallS (sp p) E t) := by
  refine ⟨fun pins s σ H Q I h => ?_⟩
  refine wpAny_Call_Name_kw (ld_glob I hg hm ?_ hdb)
  refine PySem.W.callWith_K (h₀ := X.base) I.ok.mod.kin hk (thn (ha.run pos pins s σ H _ I h) fun us s1 hh => ?_) he hpl
  obtain ⟨vs, H1, I1, r, w⟩ := hh
  refine ⟨I1.kIn, ?_⟩
  have hl : us.length = ps.length := r.length.symm.trans (FP.len _ _ _ _ _ w)
  have b := hb s1 us I1.kIn (by rw [List.append_nil]; exact hl)
  rw [List.append_nil] at b
  have P1 := I1.pin p (List.mem_append_left _ hp)
  have hpin : L2H.PinOk X.stack H1 s1 p := ⟨P1.1, P1.2.1, fun hm => (List.mem_cons.mp (I1.stkSub p.1 hm)).elim P1.2.2.1 P1.2.2.2.1, P1.2.2.2.2⟩
  refine wpAny_call (codeAny_mono (FP.run p X.A X.stack s1 H1 ⟨us, []⟩ us vs Q (E σ) hr hot hpin I1.env0 b r w) fun r s' hq => ?_)
  cases r with
  | error e => exact hx σ pins H1 s1 e s' I1 hq
  | ok fl =>
    cases fl with
    | ret u => exact I1.after hq
    | next => exact hq.elim
    | brk => exact hq.elim
    | cont => exact hq.elim
end L3
namespace PySem.W
open PySem PySem.Spec PySem.Calls PyProof.Rows
section
variable {prog : Program} {w : World} {A : Around} {E : Value → Shared → Prop} {s : Shared} {K : Frag} {x D : Addr} {ox od : Obj}
/-- e.__class__ of an error of an own class that has a dict -/
theorem errClass {Q : Option Value → Shared → Prop} (C : L2.ExcC K D) (X : K.In s.heap) (I : InstAt s.heap x ox D (some od)) (h : Q (some (.ref D)) { s with toks := s.toks + 1 }) :
    wpAny (model prog w) A (getAttr? (.ref x) "__class__") Q E s := by
  have some_cls : (clsIn K D).isSome = true := by
    obtain ⟨cd, hc, _⟩ := any_some C.hd
    rw [hc]
    rfl
  have fnd : findObj K D (some od) "__class__" = some (.bind (.builtin "getset_descriptor.__get__") (.builtin "object.__class__")) := findObj_data some_cls C.ha C.hn C.ht
  obtain ⟨hp, g, d, t, os⟩ := s
  have T0 := I.type (M := model prog w)
  have T1 := looks_findIn (M := model prog w) X C.hg
  have T2 := looks_findIn (M := model prog w) X C.hk
  have T3 := looks_find (M := model prog w) X I fnd
  have isB : Looks (model prog w) hp (isInstance (.ref x) (.type "BaseException")) true := T0.andThen (looks_subIn X C.hs)
  have n0 : (false && onTheHeap (Value.builtin "BaseException.__getattribute__")) = false := rfl
  have n2 : (Value.builtin "BaseException.__getattribute__" == Value.builtin "object.__getattribute__") = false := by decide +kernel
  have n1 : (onTheHeap (Value.ref D) && Value.builtin "BaseException.__getattribute__" == Value.builtin "object.__getattribute__") = false := by rw [n2]; rfl
  unfold getAttr? getAttrBy? getAttrBy
  refine wpAny_bind (wpAny_mkText (wpAny_bind (wpAny_attempt (wpAny_holding (wpAny_bind (T0.at (wpAny_bind (T1.at ?_))))))))
  show wpAny _ _ (if (onTheHeap (Value.ref D) && Value.builtin "BaseException.__getattribute__" == Value.builtin "object.__getattribute__") = true then _ else _) _ _ _
  rw [n1, if_neg Bool.false_ne_true]
  unfold getAttrByItsOwn hookBefore
  refine wpAny_bind ?_
  rw [if_pos (show onTheHeap (Value.ref D) = true from rfl)]
  refine T2.at (wpAny_bind (wpAny_attempt (wpAny_holding ?_)))
  unfold callGetattribute
  rw [n0, if_neg Bool.false_ne_true]
  unfold boundAndCalled
  rw [PySem.F.excAttr_ValueError.ga.bind (.ref x)]
  refine wpAny_bind (wpAny_pure ?_)
  show wpAny _ _ (call (.builtin "BaseException.__getattribute__") [.ref x, .str "__class__" t]) _ _ _
  refine wpAny_call (codeAny_call_builtin PySem.F.excAttr_ValueError.ga.plain PySem.F.entry_bexc_ga (@check_slot (model prog w) _ _ ⟨hp, g, d, t + 1, os⟩ "BaseException.__getattribute__" "BaseException" "__getattribute__" (.ref x) [.str "__class__" t] [] _
    (by decide +kernel) (by decide +kernel) isB (PySem.F.args_bexc_ga (.ref x) (.str "__class__" t)) ?_))
  unfold Builtin.«object.__getattribute__»
  refine wpAny_bind (wpAny_of_eq (a := ((Value.ref x : Value), [Value.str "__class__" t])) (by first | rfl | (simp only [slotArgs]; rfl)) (wpAny_bind (wpAny_pure (wpAny_bind (T0.at (wpAny_bind (T3.at ?_)))))))
  show wpAny _ _ (holding [Value.builtin "object.__class__"] (call (.builtin "getset_descriptor.__get__") [.builtin "object.__class__", .ref x, .ref D]) >>= ret) _ _ _
  refine wpAny_bind (wpAny_holding (wpAny_call (class_get (s := ⟨hp, g, d, t + 1, os⟩) (ox := ox) (od := some od) X I C.hm (wpAny_pure ?_))))
  show wpAny _ _ (handedOut (.ref D)) _ _ _
  rw [handedOut_of (v := .ref D) rfl]
  first
    | exact wpAny_pure (wpAny_pure h)
    | exact wpAny_pure h
    | exact wpAny_pure (wpAny_bind (wpAny_pure (wpAny_pure h)))
theorem errKit (C : L2.ExcC K D) : KitX K (.ref x) (.ref D) (fun h => ∃ ox od, InstAt h x ox D (some od)) where
  ty := fun _ _ _ ⟨_, _, I⟩ => I.type
  it := fun _ _ X _ => by
    obtain ⟨cd, hc, _⟩ := any_some C.hd
    unfold clsIn at hc
    split at hc
    · rename_i c' d' cd' sl' ho
      intro A' Q' E' s' k q
      unfold isType loadHead
      exact wpAny_bind (wpAny_loadPart (k _ _ (X _ _ ho)) (wpAny_pure q))
    · cases hc
  ne := fun h tp dd its n sl X htp => by
    obtain ⟨cd, hc, _⟩ := any_some C.hd
    refine Bool.eq_false_iff.mpr fun q => ?_
    have e : D = tp := Value.ref.inj (beq_iff_eq.mp q)
    subst e
    unfold clsIn at hc
    split at hc
    · rename_i c' d' cd' sl' ho
      cases (X _ _ ho).symm.trans htp
    · cases hc
  ca := fun X ⟨_, _, I⟩ k => errClass C X I k
end
end PySem.W
namespace L3
open PySem PySem.Spec PyProof.Rows L2
/-- isinstance(e, c), e the pinned error with its dict at dd -/
def rIsP (K : PySem.W.Frag) (D a dd : Addr) : List V → Hp → VK → Prop := fun xs H Q => ∃ (c : V) (cv : Value) (b : Bool) (fs : List (Str × V)), xs = [.ref a, c] ∧ H dd = some (.xd fs) ∧ (∀ u, RelV c u → u = cv) ∧ PySem.W.kitOne K (.ref D) cv = some b ∧ Q (.bl b) H
theorem call_isP {X : Cx} {a D dd : Addr} {oe : Obj} (C : ExcC X.K D) (hz : oe.cls = .ref D ∧ oe.dict = some dd) (hf : ∃ vs, oe.data = .fields vs) (hp : (a, oe) ∈ X.pn) : CallR X (.builtin "isinstance") (rIsP X.K D a dd) := by
  intro pins s σ H xs us Q I r h
  obtain ⟨c, cv, b, fs, rfl, ed, hcv, e, q⟩ := h
  cases r with
  | cons rx rr =>
    cases rr with
    | cons rt rr =>
      cases rr
      cases rx
      have ec := hcv _ rt
      subst ec
      obtain ⟨hget, _⟩ := I.pin (a, oe) (List.mem_append.mpr (.inl hp))
      have hx : ObjOk X.prog X.w H s.heap dd (.xd fs) := I.hok dd _ ed
      obtain ⟨mA, hns, hr⟩ := hx
      obtain ⟨od, ho, _⟩ := lookIn_ns hns
      obtain ⟨vs, hv⟩ := hf
      have J : PySem.W.InstAt s.heap a oe D (some od) := by
        obtain ⟨oc, odd, oda, osl⟩ := oe
        obtain ⟨h1, h2⟩ := hz
        dsimp only at h1 h2 hv
        subst h1 h2 hv
        exact ⟨hget, rfl, rfl, ho⟩
      refine PySem.W.kia_one (H := fun h => ∃ ox od, PySem.W.InstAt h a ox D (some od)) (PySem.W.errKit C) I.kIn ⟨_, _, J⟩ e (fun z => nomatch z) fun tk => ⟨.bl b, H, I.kept (t' := tk) fun _ _ z => z, rfl, q⟩
/-- e.f of the pinned error -/
def tXp (D a dd : Addr) (f : Str) (te : TE) : TE := fun σ H Q => te σ H fun x H1 => x = .ref a ∧ ∃ (fs : List (Str × V)) (v : V), H1 dd = some (.xd fs) ∧ fs.lookup f = some v ∧ Q v H1
theorem pe_xp {X : Cx} {a D dd : Addr} {oe : Obj} {e : Expr} {te : TE} {pos : Pos} {n : Str} (T : XfC X.K D) (hno : PySem.W.findIn X.K (.ref D) n = some none) (hz : oe.cls = .ref D ∧ oe.dict = some dd) (hf : ∃ vs, oe.data = .fields vs) (hp : (a, oe) ∈ X.pn)
    (he : PE X e te) (hb : attributeBase e n X.env (eval e X.env) = eval e X.env := by rfl) : PE X (.Attribute e n pos) (tXp D a dd n te) := by
  refine ⟨fun pins s σ H Q I h => attr_of hb (thn (he.run pins s σ H _ I h) fun u s1 hh => ?_)⟩
  obtain ⟨x, H1, I1, rx, ex, fs, v, ea, l, q⟩ := hh
  subst ex
  obtain rfl : u = Value.ref a := rx
  obtain ⟨ha, _⟩ := I1.pin (a, oe) (List.mem_append_left _ hp)
  obtain ⟨vs, hd⟩ := hf
  have hx : ObjOk X.prog X.w H1 s1.heap dd (.xd fs) := I1.hok dd _ ea
  obtain ⟨mA, hns, hr⟩ := hx
  obtain ⟨od, ho, hl⟩ := lookIn_ns hns
  obtain ⟨u, hu, ru⟩ := RelO.some_of (v := v) (o := mA n) (by rw [← l]; exact hr n)
  have J : PySem.W.InstAt s1.heap a oe D (some od) := ⟨ha, hz.1, by unfold PySem.W.notCls; rw [hd] <;> rfl, by rw [hz.2]; exact ho⟩
  exact HandSPX.exc_get I1.kIn J T.ga T.gg T.exC (PySem.W.findObj_own T.hdC hno rfl (by rw [hl, hu])) (handed_of ru) ⟨v, H1, I1.tok _, ru, q⟩
end L3
set_option maxRecDepth 100000
set_option maxHeartbeats 4000000
/-! CmC: what the head tells of the error classes and of the table of bounds. -/
namespace L3
open PySem PySem.Spec PyProof.Rows L2 He

def oexB (K : PySem.W.Frag) (C : Addr) : Bool := (match K.lookup C with
  | some ⟨.type t, _, .cls cd, sl⟩ => (match cd.mro, sl.toList with
    | .ref C' :: bm, [_, _, _, _, some (.builtin n), _] => decide (t = "type") && (decide (C' = C) && (decide (n = "ValueError.__new__") && (!cd.hasDel && (cd.hasDict && PySem.HandSPX.refsVE bm))))
    | _, _ => false)
  | _ => false) && (eqO (PySem.W.findIn K (.ref C) "__setattr__") (some (some (.builtin "object.__setattr__"))) && (decide (PySem.W.subIn K (.ref C) (.type "BaseException") = some true) &&
    (decide (PySem.W.typeIn K (.ref C) = some (.type "type")) && PySem.W.keepIn K (.ref C))))
theorem oexB_ok {K : PySem.W.Frag} {C : Addr} (h : oexB K C = true) : OexC K C := by
  obtain ⟨h0, h⟩ := ba h
  obtain ⟨h1, h⟩ := ba h
  obtain ⟨h2, h⟩ := ba h
  obtain ⟨h3, h4⟩ := ba h
  refine ⟨?_, eqO_ok h1, of_decide_eq_true h2, of_decide_eq_true h3, h4⟩
  split at h0
  · rename_i t dd cd sl ho
    split at h0
    · rename_i C' bm k0 k1 k2 k3 n k5 hm hs
      obtain ⟨e1, h0⟩ := ba h0
      obtain ⟨e2, h0⟩ := ba h0
      obtain ⟨e3, h0⟩ := ba h0
      obtain ⟨e4, h0⟩ := ba h0
      obtain ⟨e5, e6⟩ := ba h0
      have e1 := of_decide_eq_true e1
      have e2 := of_decide_eq_true e2
      have e3 := of_decide_eq_true e3
      subst e1 e2 e3
      obtain ⟨nm, bs, mro, ns, qn, hd, sn, sub, ab, col, del⟩ := cd
      dsimp only at hm e4 e5
      subst hm e5
      have hdel : del = false := by cases del <;> first | rfl | cases e4
      subst hdel
      have hsl : sl = #[k0, k1, k2, k3, some (.builtin "ValueError.__new__"), k5] := by
        have : sl.toList.toArray = [k0, k1, k2, k3, some (.builtin "ValueError.__new__"), k5].toArray := congrArg List.toArray hs
        simpa using this
      subst hsl
      exact ⟨nm, qn, ns, bs, bm, sn, sub, ab, col, dd, k0, k1, k2, k3, k5, ho, e6⟩
    · cases h0
  · cases h0
def excB (K : PySem.W.Frag) (D : Addr) : Bool := xfB K D && (eqO (PySem.W.findIn K (.ref D) "__class__") (some (some (.builtin "object.__class__"))) &&
  (eqO (PySem.W.specialIn K (.builtin "object.__class__") "__get__") (some (some (.builtin "getset_descriptor.__get__"))) && (decide (PySem.W.takesIn K (.builtin "object.__class__") = some true) && decide (PySem.W.mroIn K D (.type "object") = some true))))
theorem excB_ok {K : PySem.W.Frag} {D : Addr} (h : excB K D = true) : ExcC K D ∧ XfC K D := by
  obtain ⟨h0, h⟩ := ba h
  obtain ⟨h1, h⟩ := ba h
  obtain ⟨h2, h⟩ := ba h
  obtain ⟨h3, h4⟩ := ba h
  have X := xfB_ok h0
  exact ⟨⟨X.ga, X.gg, X.exC, X.hdC, eqO_ok h1, eqO_ok h2, of_decide_eq_true h3, of_decide_eq_true h4⟩, X⟩
/-- an error class x of the text, its __init__ stores the names fs -/
structure ErrC (K : PySem.W.Frag) (x : Str) (fs : List Str) : Prop where
  o : OexC K (ga K x)
  e : ExcC K (ga K x)
  f : XfC K (ga K x)
  no : ∀ y ∈ fs, PySem.W.findIn K (.ref (ga K x)) y = some none
  iC : PySem.W.findIn K (.ref (ga K x)) "__init__" = some (some (.ref (ma K (ga K x) "__init__")))
  tI : PySem.W.typeIn K (.ref (ma K (ga K x) "__init__")) = some (.type "function")
def errB (K : PySem.W.Frag) (x : Str) (fs : List Str) : Bool := oexB K (ga K x) && (excB K (ga K x) && ((fs.all fun y => eqO (PySem.W.findIn K (.ref (ga K x)) y) (some none)) &&
  (eqO (PySem.W.findIn K (.ref (ga K x)) "__init__") (some (some (.ref (ma K (ga K x) "__init__")))) && decide (PySem.W.typeIn K (.ref (ma K (ga K x) "__init__")) = some (.type "function")))))
theorem errB_ok {K : PySem.W.Frag} {x : Str} {fs : List Str} (h : errB K x fs = true) : ErrC K x fs := by
  obtain ⟨h1, h⟩ := ba h
  obtain ⟨h2, h⟩ := ba h
  obtain ⟨h3, h⟩ := ba h
  obtain ⟨h4, h5⟩ := ba h
  obtain ⟨a, b⟩ := excB_ok h2
  exact ⟨oexB_ok h1, a, b, fun y hy => eqO_ok (List.all_eq_true.mp h3 y hy), eqO_ok h4, of_decide_eq_true h5⟩
/-- which error is of which class -/
def kitXB (K : PySem.W.Frag) (x y : Str) (b : Bool) : Bool := decide (PySem.W.kitOne K (.ref (ga K x)) (.ref (ga K y)) = some b)
def kitsB (K : PySem.W.Frag) (base : Str) (xs : List Str) : Bool := xs.all fun x => (xs.all fun y => kitXB K x y (decide (x = y))) && (kitXB K x base true && (decide (PySem.W.kitOne K (.ref (ga K x)) (.type "ValueError") = some true) &&
  decide (PySem.W.exmOne K (.ref (ga K x)) (.ref (ga K base)) = some true)))
structure Kits (K : PySem.W.Frag) (base : Str) (xs : List Str) : Prop where
  kit : ∀ x ∈ xs, ∀ y ∈ xs, PySem.W.kitOne K (.ref (ga K x)) (.ref (ga K y)) = some (decide (x = y))
  kitO : ∀ x ∈ xs, PySem.W.kitOne K (.ref (ga K x)) (.ref (ga K base)) = some true
  kitV : ∀ x ∈ xs, PySem.W.kitOne K (.ref (ga K x)) (.type "ValueError") = some true
  exm : ∀ x ∈ xs, PySem.W.exmOne K (.ref (ga K x)) (.ref (ga K base)) = some true
theorem kitsB_ok {K : PySem.W.Frag} {base : Str} {xs : List Str} (h : kitsB K base xs = true) : Kits K base xs := by
  have key := fun x hx => ba (List.all_eq_true.mp h x hx)
  refine ⟨fun x hx y hy => of_decide_eq_true (List.all_eq_true.mp (key x hx).1 y hy), fun x hx => of_decide_eq_true (ba (key x hx).2).1, fun x hx => of_decide_eq_true (ba (ba (key x hx).2).2).1, fun x hx => of_decide_eq_true (ba (ba (key x hx).2).2).2⟩
/-- a table of the top with text keys and ints -/
def tabB (K : PySem.W.Frag) (x : Str) (kvs : List (Str × Int)) : Bool := valsB K (ga K x) (kvs.map fun q => (q.1, Dv.int q.2))
theorem tabB_ok {K : PySem.W.Frag} {w : World} {x : Str} {kvs : List (Str × Int)} {es : Array DictEntry} {n : Nat} (h : tabB K x kvs = true) (D : KDict K w (ga K x) es n) {k : Str} {i : Int} (hq : (k, i) ∈ kvs) : KDct K w (ga K x) k (.int i) := by
  obtain ⟨u, hu, ru⟩ := valsB_ok h (q := (k, Dv.int i)) (List.mem_map.mpr ⟨(k, i), hq, rfl⟩)
  exact ⟨es, n, u, D.at_, D.lit, hu, ru⟩
end L3
namespace L3
open PySem PySem.Spec PyProof.Rows L2
/-- a law's promise: a list of at most 63 ints in, True out -/
def spLaw (K : PySem.W.Frag) : Sp := fun vs H Q _ => ∃ (a : Addr) (ns : List Int), vs = [.ref a] ∧ SqL K H a (ns.map V.int) ∧ ns.length ≤ 63 ∧ ∀ H', Q (.bl true) H'
theorem walk_law {l : PySem.W.OpenLaw} {k : Nat} {q : Program} {loose : List Str} {XP : (Str → Option Value) → Heap → Prop} {YP : World → Heap → Prop} {d : DefRec} (hn : l.most = some 63) (hdf : d.params.defaults = []) (hr : Room k callerA)
    (F : ∀ (w : World) (mg : Str → Option Value) (fa : Addr) (h : Heap), YP w h → h.Ns mainGlobals mg → mg d.name = some (.ref fa) →
      ∃ (K : PySem.W.Frag) (fd : FuncData), K.In h ∧ (∀ (s : Shared) (u : Value), BindsTo s fd ⟨[u], []⟩ [("script", u)]) ∧
        ∀ base : Heap, K.In base → base.Ns mainGlobals mg → FnOk l.prog w K mg base (L2N.CX l.prog w) k fa fd ["script"] (spLaw K)) :
    PySem.W.WalkO q loose XP YP l.row.toRowW d [] (fun f vs => PySem.call f vs) := by
  refine Att.attach_call hn hdf fun w s₀ s₁ mg mb fa o pm cd doc a vs ns G Y ho hd hcd hmg hobj hints hlen hg => ?_
  obtain ⟨K, fd, KX, hb, hF⟩ := F w mg fa _ Y G.T.g hmg
  refine law_call KX G.T.g G.T.b G.T.builtins G.T.nolimit hg hobj hints (Nat.le_trans hlen (by decide)) hr hF hb (fun H hO hS => ⟨a, ns, rfl, hS, hlen, fun _ => rfl⟩) fun H e s' z => ?_
  obtain ⟨_, _, _, _, _, _, _, _, _, _, _, _, z⟩ := z
  exact z
theorem cx_none {P : Program} {w : World} {l : List Env} {H : Hp} {s : Shared} {e : Value} {s' : Shared} (z : L2N.CX P w l H s (fun _ _ _ => False) e s') : False := by
  obtain ⟨_, _, _, _, _, _, _, _, _, _, _, _, z⟩ := z
  exact z
end L3
set_option maxRecDepth 100000
set_option maxHeartbeats 4000000
/-! CmD: defs as callees, readings step by step. -/
namespace L3
open PySem PySem.Spec PyProof.Rows L2 He

/-! ### a def of the module that keeps a promise -/
structure CalG (P : Program) (w : World) (K : PySem.W.Frag) (mg : Str → Option Value) (base : Heap) (k : Nat) (x : Str) (ps : List Str) (sp : Sp) : Prop where
  g : mg x = some (.ref (ga K x))
  ok : ∃ fd, FnOk P w K mg base (L2N.CX P w) k (ga K x) fd ps sp ∧ Binds K fd ps []
  kp : PySem.W.keepIn K (.ref (ga K x)) = true
theorem CalG.imp {P : Program} {w : World} {K : PySem.W.Frag} {mg : Str → Option Value} {base : Heap} {k : Nat} {x : Str} {ps : List Str} {sp sp' : Sp} (c : CalG P w K mg base k x ps sp) (h : ∀ vs H Q E, sp' vs H Q E → sp vs H Q E) : CalG P w K mg base k x ps sp' := by
  obtain ⟨fd, F, b⟩ := c.ok
  exact ⟨c.g, ⟨fd, F.imp h, b⟩, c.kp⟩
theorem CalG.mono {P : Program} {w : World} {K : PySem.W.Frag} {mg : Str → Option Value} {base : Heap} {j k : Nat} {x : Str} {ps : List Str} {sp : Sp} (c : CalG P w K mg base j x ps sp) (h : j ≤ k) : CalG P w K mg base k x ps sp := by
  obtain ⟨fd, F, b⟩ := c.ok
  exact ⟨c.g, ⟨fd, F.mono h, b⟩, c.kp⟩
section
variable {P : Program} {w : World} {K : PySem.W.Frag} {mg : Str → Option Value} {base : Heap}
/-- a def keeps its promise: its body's rules and their reading -/
theorem calG_of {x : Str} {st : Stmt} {N ps : List Str} {k : Nat} {sp : Sp} (hg : mg x = some (.ref (ga K x))) (D : ∃ fd, FunD K x x (defArgs st) (defBody st) (defScope st) [] [] (ga K x) fd) (S : FnScope N ps (defScope st))
    (hb : ∀ (dV kV doc pm : Value) (an : Option Addr) (cdv ct : Value) (us : List Value), us.length = ps.length → bindArgs (PySem.W.fnOf x x (defArgs st) (defBody st) (defScope st) .none kV doc pm an cdv ct) ⟨us, []⟩ = pure (ps.zip us))
    (len : ∀ vs H Q E, sp vs H Q E → vs.length = ps.length)
    (hbody : ∀ (cdv : Value) (A : Around) (outer : List Env) (s : Shared) (H : Hp) (vs : List V) (Q : VK) (E : XK), Room k (A.deeper (envOfC x (defScope st) s.heap.objs.size (ga K x) cdv)) → sp vs H Q E →
      ∃ t, PSs (cxOf (L2N.CX P w) P w K mg base N x (defScope st) (ga K x) cdv A outer s H E) (defBody st) t ∧ t { nx := fun _ H' => Q .non H', rt := Q } (start N vs) H) : CalG P w K mg base (k + 1) x ps sp := by
  obtain ⟨fd, F⟩ := D
  exact ⟨hg, ⟨fd, F.ok S len hbody, F.bindsN fun kV doc pm an cdv ct us hl => hb .none kV doc pm an cdv ct us hl⟩, F.kp⟩
end
section
variable {X : Cx} {W : L2.WX}
/-- x(e, ..) of such a def; what it raises is wished by W -/
theorem pe_cal {k j : Nat} {x : Str} {ps : List Str} {sp : Sp} {q pos : Pos} {e : Expr} {es : List Expr} {t : TA} (c : CalG X.prog X.w X.K X.mg X.base j x ps sp) (hr : Room k X.A) (hj : j ≤ k) (hx : ∀ σ, PassesAt (L2N.CX X.prog X.w) X σ (WE W σ)) (ha : PA X (e :: es) t) (hg : Gl X x := by rfl)
    (hdb : (x == ("__debug__" : Str)) = false := by decide) (he : starEach (e :: es) X.env = (false, eval e X.env) :: starEach es X.env := by rfl) (hpl : (backTo pos (starEach es X.env)).any (·.1) = false := by rfl) :
    PE X (.Call (.Name x q) (e :: es) [] pos) (tCallS sp (WE W) t) := by
  have z : ∃ fd, FnOk X.prog X.w X.K X.mg X.base (L2N.CX X.prog X.w) j (ga X.K x) fd ps sp ∧ Binds X.K fd ps [] := c.ok
  have key := Classical.choose_spec z
  exact pe_callS key.1 (hr.mono hj) hg c.g c.kp key.2 hx ha hdb he hpl
/-- nothing is let out -/
theorem passN (σ : L2.St) : PassesAt (L2N.CX X.prog X.w) X σ (WE (fun _ _ _ _ => False) σ) := fun _ _ _ e s' I c => by
  obtain ⟨_, _, _, _, _, _, _, _, _, _, _, _, z⟩ := c
  exact z.elim
theorem pe_gl {x : Str} {pos : Pos} {a : Addr} (hm : X.mg x = some (.ref a)) (hg : Gl X x := by rfl) (hdb : (x == ("__debug__" : Str)) = false := by decide) : PE X (.Name x pos) (tC (.ref a)) :=
  pe_glob hg hm rfl hdb
end

/-! ### readings, step by step: each from what is asked next -/
section
variable {σ σ' : L2.St} {H : Hp} {Q : VK} {D : Ends} {t u : TS} {te ta tb : TE} {g : TG} {v x y : V} {K : PySem.W.Frag}
variable {nx bk ct : L2.St → Hp → Prop} {rt : VK}
theorem r_seq (k : t ⟨u ⟨nx, rt, bk, ct⟩, rt, bk, ct⟩ σ H) : tSeq t u ⟨nx, rt, bk, ct⟩ σ H := k
theorem r_asgN {i : Nat} (k : te σ H fun x H1 => nx (σ.set i (some x)) H1) : tAsg te (gName i) ⟨nx, rt, bk, ct⟩ σ H := k
theorem r_asg (k : te σ H fun x H1 => g x σ H1 nx) : tAsg te g ⟨nx, rt, bk, ct⟩ σ H := k
theorem r_ret (k : te σ H rt) : tRet te ⟨nx, rt, bk, ct⟩ σ H := k
theorem r_retN (k : rt .non H) : tRetN ⟨nx, rt, bk, ct⟩ σ H := k
theorem r_next (k : nx σ H) : tNext ⟨nx, rt, bk, ct⟩ σ H := k
theorem r_brk (k : bk σ H) : tBreak ⟨nx, rt, bk, ct⟩ σ H := k
theorem r_cont (k : ct σ H) : tCont ⟨nx, rt, bk, ct⟩ σ H := k
theorem r_drop (k : te σ H fun _ H1 => nx σ H1) : tDrop te ⟨nx, rt, bk, ct⟩ σ H := k
theorem r_aug {i : Nat} {ti : TIp} (e : σ[i]? = some (some x)) (k : te σ H fun y H1 => ti x y H1 fun z H2 => nx (σ.set i (some z)) H2) : tAug i te ti ⟨nx, rt, bk, ct⟩ σ H := ⟨x, e, k⟩
theorem r_augS {to ti : TE} {tget : V → V → Hp → VK → Prop} {tip : TIp} {tset : TSet} (k : to σ H fun o H1 => ti σ H1 fun i H2 => tget o i H2 fun x H3 => te σ H3 fun y H4 => tip x y H4 fun z H5 => tset o i z H5 fun H6 => nx σ H6) :
    tAugS to ti te tget tip tset ⟨nx, rt, bk, ct⟩ σ H := k
theorem r_sub {to ti : TE} {ts : TSet} {P : L2.St → Hp → Prop} (k : to σ H fun o H1 => ti σ H1 fun i H2 => ts o i v H2 fun H3 => P σ H3) : gSub to ti ts v σ H P := k
theorem r_ifS {c : TT} (k : c σ H fun b H1 => if b = true then t D σ H1 else u D σ H1) : tIfS c t u D σ H := k
theorem r_if {c : TT} (k : c σ H fun b H1 => if b = true then ta σ H1 Q else tb σ H1 Q) : tIf c ta tb σ H Q := k
theorem r_var {i : Nat} (e : σ[i]? = some (some v)) (k : Q v H) : tVar i σ H Q := ⟨v, e, k⟩
theorem r_c (k : Q v H) : tC v σ H Q := k
theorem r_op {r : R2} (k : ta σ H fun x H1 => tb σ H1 fun y H2 => r x y H2 Q) : tOp r ta tb σ H Q := k
theorem r_un {r : V → Hp → VK → Prop} (k : ta σ H fun x H1 => r x H1 Q) : tUn r ta σ H Q := k
theorem r_test {P : Bool → Hp → Prop} (k : te σ H fun x H' => ∃ k, x = .bl k ∧ P k H') : tTest te σ H P := k
theorem r_B {P : Bool → Hp → Prop} (k : te σ H fun x H1 => ∃ c, x = .bl c ∧ P c H1) : tB te σ H P := k
theorem r_bl {b : Bool} {P : Bool → Prop} (k : P b) : ∃ c, V.bl b = .bl c ∧ P c := ⟨b, rfl, k⟩
theorem r_and {c d : TT} {P : Bool → Hp → Prop} (k : c σ H fun b H1 => if b = true then d σ H1 P else P false H1) : tAnd c d σ H P := k
theorem r_or {c d : TT} {P : Bool → Hp → Prop} (k : c σ H fun b H1 => if b = true then P true H1 else d σ H1 P) : tOr c d σ H P := k
theorem r_not {c : TT} {P : Bool → Hp → Prop} (k : c σ H fun b H1 => P (!b) H1) : tNot c σ H P := k
theorem r_andV (k : ta σ H fun x H1 => ∃ c, x = .bl c ∧ if c = true then tb σ H1 Q else Q (.bl false) H1) : tAndV ta tb σ H Q := k
theorem r_orV (k : ta σ H fun x H1 => ∃ c, x = .bl c ∧ if c = true then Q (.bl true) H1 else tb σ H1 Q) : tOrV ta tb σ H Q := k
theorem r_notV (k : ta σ H fun x H1 => ∃ c, x = .bl c ∧ Q (.bl (!c)) H1) : tNotV ta σ H Q := k
theorem r_nil {P : List V → Hp → Prop} (k : P [] H) : tNil σ H P := k
theorem r_cons {ta : TE} {tr : TA} {P : List V → Hp → Prop} (k : ta σ H fun x H1 => tr σ H1 fun xs H2 => P (x :: xs) H2) : tCons ta tr σ H P := k
theorem r_cb {r : List V → Hp → VK → Prop} {ta : TA} (k : ta σ H fun vs H1 => r vs H1 Q) : tCB r ta σ H Q := k
theorem r_callS {sp : Sp} {E : L2.St → XK} {ta : TA} (k : ta σ H fun vs H1 => sp vs H1 Q (E σ)) : tCallS sp E ta σ H Q := k
def NewL (xs : List V) (H1 : Hp) (Q : VK) : Prop := xs.length ≤ sizeLine ∧ ∀ p, H1 p = none → Q (.ref p) (upd H1 p (.lst xs))
def NewT (xs : List V) (H1 : Hp) (Q : VK) : Prop := xs.length ≤ sizeLine ∧ ∀ p, H1 p = none → Q (.ref p) (upd H1 p (.tup xs))
theorem r_tup {ta : TA} (k : ta σ H fun xs H1 => NewT xs H1 Q) : tTup ta σ H Q := k
theorem r_lst {ta : TA} (k : ta σ H fun xs H1 => NewL xs H1 Q) : tLst ta σ H Q := k
theorem r_bm {T : String} {r : V → List V → Hp → VK → Prop} {t : TA} (k : ta σ H fun x H1 => tyV K T x H1 ∧ t σ H1 fun xs H2 => r x xs H2 Q) : tBM K T r ta t σ H Q := k
theorem r_bm0 {T : String} {r : V → List V → Hp → VK → Prop} (k : ta σ H fun x H1 => tyV K T x H1 ∧ r x [] H1 Q) : tBM0 K T r ta σ H Q := k
theorem r_sl {r : V → Option Int → Option Int → Hp → VK → Prop} {tl th : TO} (k : te σ H fun x H1 => tl σ H1 fun l H2 => th σ H2 fun u H3 => r x l u H3 Q) : tSl r te tl th σ H Q := k
theorem r_noPart {P : Option Int → Hp → Prop} (k : P none H) : tNoPart σ H P := k
theorem r_part {P : Option Int → Hp → Prop} (k : te σ H fun x H1 => ∃ i, x = .int i ∧ P (some i) H1) : tPart te σ H P := k
theorem r_int {i : Int} {P : Int → Prop} (k : P i) : ∃ j, V.int i = .int j ∧ P j := ⟨i, rfl, k⟩
/-! leaves: ints -/
theorem r_I0 {g : Int → Int → V} {i j : Int} (k : Q (g i j) H) : rI0 g (.int i) (.int j) H Q := ⟨i, j, rfl, rfl, k⟩
theorem r_I {C : Int → Int → Prop} {g : Int → Int → V} {i j : Int} (c : C i j) (k : Q (g i j) H) : rI C g (.int i) (.int j) H Q := ⟨i, j, rfl, rfl, c, k⟩
theorem r_plusI {i j : Int} (k : Q (.int (i + j)) H) : rPlus K (.int i) (.int j) H Q := .inl ⟨i, j, rfl, rfl, k⟩
theorem r_timesI {i j : Int} (c : CMulW i j) (k : Q (.int (i * j)) H) : rTimes (.int i) (.int j) H Q := .inl ⟨i, j, rfl, rfl, c, k⟩
theorem r_neg {i : Int} (k : Q (.int (-i)) H) : rU (fun i => .int (-i)) (.int i) H Q := ⟨i, rfl, k⟩
theorem r_sameS (h : scal x y = true) (k : Q (.bl (decide (x = y))) H) : rSame K x y H Q := .inl ⟨h, k⟩
theorem r_otherS (h : scal x y = true) (k : Q (.bl (!decide (x = y))) H) : rOther K x y H Q := .inl ⟨h, k⟩
theorem r_isN (k : Q (.bl (decide (x = .non))) H) : (fun x y H Q => y = .non ∧ Q (.bl (decide (x = .non))) H : R2) x .non H Q := ⟨rfl, k⟩
/-! leaves: lists -/
theorem r_atL {p : Addr} {xs : List V} {i : Int} (h : SqL K H p xs) (e : atI xs i = some v) (k : Q v H) : rAt K (.ref p) (.int i) H Q := .inl ⟨p, xs, i, v, rfl, rfl, h, e, k⟩
theorem r_atT {p : Addr} {xs : List V} {i : Int} (h : SqT K H p xs) (e : atI xs i = some v) (k : Q v H) : rAt K (.ref p) (.int i) H Q := .inr ⟨p, xs, i, v, rfl, rfl, h, e, k⟩
/-- what is known of the heap behind a new object -/
def Ext (H H' : Hp) : Prop := ∀ a o, H a = some o → H' a = some o
theorem Ext.rfl {H : Hp} : Ext H H := fun _ _ h => h
theorem Ext.trans {H H1 H2 : Hp} (a : Ext H H1) (b : Ext H1 H2) : Ext H H2 := fun x o h => b x o (a x o h)
theorem Ext.new {H : Hp} {p : Addr} {o : HO} (h : H p = none) : Ext H (upd H p o) := fun a u e => by rw [upd_ne (ne_of_none e h)]; exact e
theorem Ext.mut {H H' : Hp} {p : Addr} {o : HO} (e : Ext H H') (h : H p = none) : Ext H (upd H' p o) := fun a u ha => by rw [upd_ne (ne_of_none ha h)]; exact e a u ha
theorem Ext.none {H H' : Hp} {p : Addr} (e : Ext H H') (h : H' p = none) : H p = none := by
  cases q : H p with
  | none => exact Eq.refl _
  | some o => rw [e p o q] at h; cases h
theorem Ext.l {H H' : Hp} {a : Addr} {xs : List V} (e : Ext H H') (h : SqL K H a xs) : SqL K H' a xs := by
  rcases h with (h | ⟨o, h⟩) | h
  · exact .inl (.inl (e _ _ h))
  · exact .inl (.inr ⟨o, e _ _ h⟩)
  · exact .inr h
theorem Ext.tu {H H' : Hp} {a : Addr} {xs : List V} (e : Ext H H') (h : SqT K H a xs) : SqT K H' a xs := by
  rcases h with (h | ⟨o, h⟩) | h
  · exact .inl (.inl (e _ _ h))
  · exact .inl (.inr ⟨o, e _ _ h⟩)
  · exact .inr h
theorem sqL {a : Addr} {xs : List V} (h : H a = some (.lst xs)) : SqL K H a xs := .inl (.inl h)
theorem sqT {a : Addr} {xs : List V} (h : H a = some (.tup xs)) : SqT K H a xs := .inl (.inl h)
theorem r_newL {xs : List V} (h : xs.length ≤ 100000) (k : ∀ p H', H p = none → Ext H H' → H' p = some (.lst xs) → Q (.ref p) H') : NewL xs H Q :=
  ⟨Nat.le_trans h (by decide), fun p hp => k p _ hp (Ext.new hp) upd_same⟩
theorem r_newT {xs : List V} (h : xs.length ≤ 100000) (k : ∀ p H', H p = none → Ext H H' → H' p = some (.tup xs) → Q (.ref p) H') : NewT xs H Q :=
  ⟨Nat.le_trans h (by decide), fun p hp => k p _ hp (Ext.new hp) upd_same⟩
/-- xs.append(v), the list at l the call's own (new since H0) -/
theorem r_app {l : Addr} {xs : List V} (h : H l = some (.lst xs)) (hz : xs.length < 100000) (k : ∀ H', H' l = some (.lst (xs ++ [v])) → (∀ b, b ≠ l → H' b = H b) → Q .non H') : rAppend (.ref l) [v] H Q :=
  ⟨l, xs, v, rfl, rfl, h, Nat.lt_of_lt_of_le hz (by decide), k _ upd_same fun b hb => upd_ne hb⟩
theorem r_popL {l : Addr} {xs : List V} (h : H l = some (.lst (xs ++ [v]))) (k : ∀ H', H' l = some (.lst xs) → (∀ b, b ≠ l → H' b = H b) → Q v H') : rPop (.ref l) [] H Q :=
  ⟨l, xs ++ [v], v, rfl, rfl, h, by simp, k _ (by rw [List.dropLast_concat]; exact upd_same) fun b hb => upd_ne hb⟩
theorem tyL {a : Addr} {xs : List V} (h : SqL K H a xs) : tyV K "list" (.ref a) H := .inl ⟨rfl, xs, h⟩
theorem mut_ext {H0 H H' : Hp} {l : Addr} (e : Ext H0 H) (h0 : H0 l = none) (m : ∀ b, b ≠ l → H' b = H b) : Ext H0 H' := fun a o ha => (m a (ne_of_none ha h0)).trans (e a o ha)
theorem mut_at {H H' : Hp} {l b : Addr} {o : HO} (m : ∀ b, b ≠ l → H' b = H b) (hb : b ≠ l) (h : H b = some o) : H' b = some o := (m b hb).trans h
/-! tests -/
theorem ite_d {p A B : Prop} [Decidable p] (h1 : p → A) (h2 : ¬ p → B) : if decide p = true then A else B := by
  by_cases h : p
  · rw [if_pos (decide_eq_true h)]; exact h1 h
  · rw [if_neg (by simpa using h)]; exact h2 h
theorem ite_n {p A B : Prop} [Decidable p] (h1 : ¬ p → A) (h2 : p → B) : if (!decide p) = true then A else B := by
  by_cases h : p
  · rw [if_neg (by simpa using h)]; exact h2 h
  · rw [if_pos (by simpa using h)]; exact h1 h
theorem ite_b {b : Bool} {A B : Prop} (h1 : b = true → A) (h2 : b = false → B) : if b = true then A else B := by
  cases b
  · exact h2 rfl
  · exact h1 rfl
theorem ite_t {A B : Prop} (h : A) : if true = true then A else B := h
theorem ite_f {A B : Prop} (h : B) : if false = true then A else B := h
end
end L3
namespace L3
open PySem PySem.Spec PyProof.Rows L2
/-- xs[i] ahead of xs[i] op= e, i from the front -/
def rGetL (K : PySem.W.Frag) : R2 := fun x y H Q => ∃ p xs i v, x = .ref p ∧ y = .int i ∧ SqL K H p xs ∧ 0 ≤ i ∧ xs[i.toNat]? = some v ∧ Q v H
theorem get_list {X : Cx} : PGet X (rGetL X.K) := by
  intro pins s σ H o i ov iv Q I ro ri h
  obtain ⟨p, xs, j, z, rfl, rfl, hq, h0, e, q⟩ := h
  cases ro
  obtain ⟨t, rfl⟩ := ri
  obtain ⟨its, r, pl, hz⟩ := I.list hq
  obtain ⟨w, ew, rw'⟩ := r.get e
  have hl := r.length
  have hn := line63
  have h5 : j.toNat < xs.length := (List.getElem?_eq_some_iff.mp e).1
  exact wpAny_getItem_list pl.isList h0 (by omega) (by simpa using ew) ⟨z, H, I, rw', q⟩
theorem r_getL {K : PySem.W.Frag} {H : Hp} {Q : VK} {p : Addr} {xs : List V} {i : Int} {v : V} (h : SqL K H p xs) (h0 : 0 ≤ i) (e : xs[i.toNat]? = some v) (k : Q v H) : rGetL K (.ref p) (.int i) H Q := ⟨p, xs, i, v, rfl, rfl, h, h0, e, k⟩
theorem r_ipI {f : Int → Int → Int} {H : Hp} {Q : VK} {i j : Int} (k : Q (.int (f i j)) H) : ipI f (.int i) (.int j) H Q := ⟨i, j, rfl, rfl, k⟩
theorem ixN_of {n j : Nat} (hj : j < n) : ixN n (j : Int) = some j := by
  unfold ixN
  rw [if_pos (by omega), if_pos (by omega)]
  simp
theorem r_setL {H : Hp} {P : Hp → Prop} {p : Addr} {xs : List V} {i : Int} {j : Nat} {v : V} (h : H p = some (.lst xs)) (hi : i = (j : Int)) (hj : j < xs.length) (k : ∀ H', H' p = some (.lst (xs.set j v)) → (∀ b, b ≠ p → H' b = H b) → P H') : rSetL (.ref p) (.int i) v H P :=
  ⟨p, xs, i, j, rfl, rfl, h, by rw [hi]; exact ixN_of hj, k _ upd_same fun b hb => upd_ne hb⟩
end L3
set_option maxRecDepth 100000
set_option maxHeartbeats 4000000
/-! CmE: own errors raised; the bounds; a source of draws. -/
namespace L3
open PySem PySem.Spec PyProof.Rows L2 He
/-! ### an error's __init__ that stores one name, two names -/
def spI1 (C : Addr) (f : Str) : Sp := fun vs H Q _ => ∃ (a : Addr) (v : V), vs = [.ref a, v] ∧ H a = some (exo a C none) ∧ ∀ dx, H dx = none → dx ≠ a → Q .non (upd (upd H dx (exd dx [(f, v)])) a (exo a C (some dx)))
def spI2 (C : Addr) (f g : Str) : Sp := fun vs H Q _ => ∃ (a : Addr) (u v : V), vs = [.ref a, u, v] ∧ H a = some (exo a C none) ∧ ∀ dx, H dx = none → dx ≠ a → Q .non (upd (upd (upd H dx (exd dx [(f, u)])) a (exo a C (some dx))) dx (exd dx [(g, v), (f, u)]))
abbrev ErrI (P : Program) (w : World) (K : PySem.W.Frag) (mg : Str → Option Value) (base : Heap) (x : Str) (ps : List Str) (sp : Sp) : Prop :=
  ∃ fd, FnOk P w K mg base (L2N.CX P w) 1 (ma K (ga K x) "__init__") fd ps sp ∧ Binds K fd ps []
section
variable {P : Program} {w : World} {K : PySem.W.Frag} {mg : Str → Option Value} {base : Heap}
theorem errI_of {x q : Str} {st : Stmt} {N ps : List Str} {sp : Sp} (D : ∃ fd, FunD K "__init__" q (defArgs st) (defBody st) (defScope st) [] [] (ma K (ga K x) "__init__") fd) (S : FnScope N ps (defScope st))
    (hb : ∀ (dV kV doc pm : Value) (an : Option Addr) (cdv ct : Value) (us : List Value), us.length = ps.length → bindArgs (PySem.W.fnOf "__init__" q (defArgs st) (defBody st) (defScope st) .none kV doc pm an cdv ct) ⟨us, []⟩ = pure (ps.zip us))
    (len : ∀ vs H Q E, sp vs H Q E → vs.length = ps.length)
    (hbody : ∀ (cdv : Value) (A : Around) (outer : List Env) (s : Shared) (H : Hp) (vs : List V) (Q : VK) (E : XK), Room 0 (A.deeper (envOfC q (defScope st) s.heap.objs.size (ma K (ga K x) "__init__") cdv)) → sp vs H Q E →
      ∃ t, PSs (cxOf (L2N.CX P w) P w K mg base N q (defScope st) (ma K (ga K x) "__init__") cdv A outer s H E) (defBody st) t ∧ t { nx := fun _ H' => Q .non H', rt := Q } (start N vs) H) : ErrI P w K mg base x ps sp := by
  obtain ⟨fd, F⟩ := D
  exact ⟨fd, F.ok S len hbody, F.bindsN fun kV doc pm an cdv ct us hl => hb .none kV doc pm an cdv ct us hl⟩
theorem pmk_errI {X : Cx} {x : Str} {fs ps : List Str} {sp : Sp} {e : Expr} {es : List Expr} {ta : TA} {p pos : Pos} {k : Nat} (EC : ErrC X.K x fs) (I : ErrI X.prog X.w X.K X.mg X.base x ps sp) (hr : Room k X.A) (hk : 2 ≤ k) (hm : X.mg x = some (.ref (ga X.K x))) (ha : PA X (e :: es) ta)
    (hg : Gl X x := by rfl) (hdb : (x == ("__debug__" : Str)) = false := by decide) (he : starEach (e :: es) X.env = (false, eval e X.env) :: starEach es X.env := by rfl) (hpl : (backTo pos (starEach es X.env)).any (·.1) = false := by rfl) :
    L2N.PMk X (.Call (.Name x p) (e :: es) [] pos) (tMkO (ga X.K x) sp [] ta) := by
  have key := Classical.choose_spec I
  exact pmk_err EC.o EC.iC EC.tI key.1 (hr.mono hk) key.2 (fun _ _ _ _ _ _ _ z => by
    obtain ⟨_, _, _, _, _, _, _, _, _, _, _, _, z⟩ := z
    exact z.elim) hg hm ha hdb he hpl
/-- the reading of self.f = v in such an __init__ -/
theorem r_ost1 {σ : L2.St} {H : Hp} {f : Str} {v : V} {a C : Addr} {nx bk ct : L2.St → Hp → Prop} {rt : VK} (ho : OexC K C) (hno : PySem.W.findIn K (.ref C) f = some none) (ea : H a = some (exo a C none)) {i j : Nat} (hi : σ[i]? = some (some (.ref a))) (hj : σ[j]? = some (some v))
    (k : ∀ dx, H dx = none → dx ≠ a → nx σ (upd (upd H dx (exd dx [(f, v)])) a (exo a C (some dx)))) : tOst K f (tVar i) (tVar j) ⟨nx, rt, bk, ct⟩ σ H :=
  ⟨v, hj, .ref a, hi, a, C, rfl, ho, hno, .inl ⟨ea, k⟩⟩
theorem r_ost2 {σ : L2.St} {H : Hp} {f : Str} {v : V} {a C dx : Addr} {fs : List (Str × V)} {nx bk ct : L2.St → Hp → Prop} {rt : VK} (ho : OexC K C) (hno : PySem.W.findIn K (.ref C) f = some none) (ea : H a = some (exo a C (some dx))) (ed : H dx = some (exd dx fs)) (hf : fs.length ≤ 900)
    {i j : Nat} (hi : σ[i]? = some (some (.ref a))) (hj : σ[j]? = some (some v)) (k : nx σ (upd H dx (exd dx ((f, v) :: fs)))) : tOst K f (tVar i) (tVar j) ⟨nx, rt, bk, ct⟩ σ H :=
  ⟨v, hj, .ref a, hi, a, C, rfl, ho, hno, .inr ⟨dx, fs, ea, ed, hf, k⟩⟩
theorem exo_ne_exd {a C dx : Addr} {d : Option Addr} {fs : List (Str × V)} {H : Hp} (ha : H a = none) (hd : upd H a (exo a C d) dx = none) : dx ≠ a := fun e => by
  rw [e, upd_same] at hd; cases hd
theorem err_heap {H : Hp} {a dx C : Addr} {u o : HO} (ha : H a = none) (hd : H dx = none) (hne : dx ≠ a) : Ext H (upd (del (upd (upd (upd H a u) dx o) a u) a) dx o) ∧ (upd (del (upd (upd (upd H a u) dx o) a u) a) dx o) dx = some o :=
  ⟨fun b q e => by rw [upd_ne (ne_of_none e hd), del_ne (ne_of_none e ha), upd_ne (ne_of_none e ha), upd_ne (ne_of_none e hd), upd_ne (ne_of_none e ha)]; exact e, upd_same⟩
/-- C(v): an error with its own dict, new -/
theorem r_mk1 {H : Hp} {C : Addr} {f : Str} {v : V} {E : XK} (k : ∀ d H', H d = none → Ext H H' → H' d = some (.xd [(f, v)]) → E (.ref C) (some d) H') :
    [v].length ≤ 1000 ∧ ∀ a, H a = none → spI1 C f (.ref a :: ([v] ++ [])) (upd H a (exo a C none)) (fun v' H2 => v' = .non ∧ ∃ (d : Addr) (fs : List (Str × V)), H2 a = some (exo a C (some d)) ∧ H2 d = some (exd d fs) ∧ H d = none ∧ E (.ref C) (some d) (upd (del H2 a) d (.xd fs))) (fun _ _ _ => False) := by
  refine ⟨by show 1 ≤ 1000; decide, fun a ha => ⟨a, v, rfl, upd_same, fun dx hd hne => ⟨rfl, dx, [(f, v)], upd_same, by rw [upd_ne hne, upd_same], ?_, ?_⟩⟩⟩
  · rw [upd_ne hne] at hd; exact hd
  · rw [upd_ne hne] at hd
    refine k dx _ hd (fun b q e => ?_) upd_same
    rw [upd_ne (ne_of_none e hd), del_ne (ne_of_none e ha), upd_ne (ne_of_none e ha), upd_ne (ne_of_none e hd), upd_ne (ne_of_none e ha)]
    exact e
theorem r_mk2 {H : Hp} {C : Addr} {f g : Str} {u v : V} {E : XK} (k : ∀ d H', H d = none → Ext H H' → H' d = some (.xd [(g, v), (f, u)]) → E (.ref C) (some d) H') :
    [u, v].length ≤ 1000 ∧ ∀ a, H a = none → spI2 C f g (.ref a :: ([u, v] ++ [])) (upd H a (exo a C none)) (fun v' H2 => v' = .non ∧ ∃ (d : Addr) (fs : List (Str × V)), H2 a = some (exo a C (some d)) ∧ H2 d = some (exd d fs) ∧ H d = none ∧ E (.ref C) (some d) (upd (del H2 a) d (.xd fs))) (fun _ _ _ => False) := by
  refine ⟨by show 2 ≤ 1000; decide, fun a ha => ⟨a, u, v, rfl, upd_same, fun dx hd hne => ⟨rfl, dx, [(g, v), (f, u)], by rw [upd_ne hne.symm, upd_same], upd_same, ?_, ?_⟩⟩⟩
  · rw [upd_ne hne] at hd; exact hd
  · rw [upd_ne hne] at hd
    refine k dx _ hd (fun b q e => ?_) upd_same
    rw [upd_ne (ne_of_none e hd), del_ne (ne_of_none e ha), upd_ne (ne_of_none e hd), upd_ne (ne_of_none e ha), upd_ne (ne_of_none e hd), upd_ne (ne_of_none e ha)]
    exact e
end
/-- raise C(e, ..) -/
theorem r_mkO {sp : Sp} {ta : TA} {C : Addr} {E : XK} {σ : L2.St} {H : Hp} (k : ta σ H fun vs H1 => vs.length ≤ 1000 ∧ ∀ a, H1 a = none → sp (.ref a :: (vs ++ [])) (upd H1 a (exo a C none))
    (fun v H2 => v = .non ∧ ∃ (d : Addr) (fs : List (Str × V)), H2 a = some (exo a C (some d)) ∧ H2 d = some (exd d fs) ∧ H1 d = none ∧ E (.ref C) (some d) (upd (del H2 a) d (.xd fs))) (fun _ _ _ => False)) :
    tMkO C sp [] ta σ H E := k
/-! ### wide products: one factor small, or both below a million bits -/
def CMulB (i j : Int) : Prop := CMulW i j ∨ CMul i j
def rTimesB : R2 := fun x y H Q => rI CMulB (fun i j => .int (i * j)) x y H Q ∨ rRep x y H Q
theorem op_timesB {X : Cx} : OpR X (binaryOp .Mult) rTimesB := by
  intro pins s σ H x y u v Q I rx ry h
  rcases h with ⟨i, j, ex, ey, c, q⟩ | h
  · rcases c with c | c
    · exact op_mulW pins s σ H x y u v Q I rx ry ⟨i, j, ex, ey, c, q⟩
    · exact op_mul pins s σ H x y u v Q I rx ry ⟨i, j, ex, ey, c, q⟩
  · exact op_rep pins s σ H x y u v Q I rx ry h
theorem r_timesB {H : Hp} {Q : VK} {i j : Int} (c : CMulB i j) (k : Q (.int (i * j)) H) : rTimesB (.int i) (.int j) H Q := .inl ⟨i, j, rfl, rfl, c, k⟩
theorem cmR {i j : Int} (h1 : -(2 ^ 64) < j) (h2 : j < 2 ^ 64) : CMulB i j := .inr (.inr ⟨h1, h2⟩)
theorem cmL {i j : Int} (h1 : -(2 ^ 64) < i) (h2 : i < 2 ^ 64) : CMulB i j := .inr (.inl ⟨h1, h2⟩)
theorem cdW {i j : Int} (h : 0 < j) (h2 : j < 2 ^ 250) : CDivW i j := wide_div h (b := 250) (by omega) (by decide) (by decide)
theorem r_repL {l : Addr} {xs : List V} {H : Hp} {Q : VK} {k : Int} (h : H l = some (.lst xs)) (h1 : -(2 ^ 63) ≤ k) (h2 : k < 2 ^ 63) (h3 : xs.length * k.toNat ≤ 100000) (q : ∀ p H', H p = none → Ext H H' → H' p = some (.lst (List.replicate k.toNat xs).flatten) → Q (.ref p) H') : rTimesB (.ref l) (.int k) H Q :=
  .inr ⟨l, k, xs, rfl, rfl, h, h1, h2, Nat.le_trans h3 (by decide), fun p hp => q p _ hp (Ext.new hp) upd_same⟩
end L3
namespace L3
open PySem PySem.Spec PyProof.Rows L2 He
section
variable {K : PySem.W.Frag} {H : Hp} {Q : VK} {σ : L2.St}
/-! leaves of built-ins -/
def LenS (K : PySem.W.Frag) : List V → Hp → VK → Prop := fun xs H Q => ∃ p ys, xs = [.ref p] ∧ (SqL K H p ys ∨ SqT K H p ys) ∧ Q (.int ys.length) H
theorem cr_len {X : Cx} : CallR X (.builtin "len") (LenS X.K) := call_len_seq
theorem r_lenL {p : Addr} {ys : List V} {n : Int} (h : SqL K H p ys) (e : (ys.length : Int) = n) (k : Q (.int n) H) : LenS K [.ref p] H Q := ⟨p, ys, rfl, .inl h, by rw [e]; exact k⟩
theorem r_lenT {p : Addr} {ys : List V} {n : Int} (h : SqT K H p ys) (e : (ys.length : Int) = n) (k : Q (.int n) H) : LenS K [.ref p] H Q := ⟨p, ys, rfl, .inr h, by rw [e]; exact k⟩
def IntS : List V → Hp → VK → Prop := fun xs H Q => (∃ i, xs = [.int i] ∧ Q (.int i) H) ∨ ∃ k, xs = [.bl k] ∧ Q (.int (if k then 1 else 0)) H
theorem cr_int {X : Cx} : CallR X (.type "int") IntS := call_int1
theorem r_intI {i : Int} (k : Q (.int i) H) : IntS [.int i] H Q := .inl ⟨i, rfl, k⟩
def AbsS : List V → Hp → VK → Prop := fun xs H Q => ∃ i, xs = [.int i] ∧ Q (.int (if i < 0 then -i else i)) H
theorem cr_abs {X : Cx} : CallR X (.builtin "abs") AbsS := call_abs
theorem r_abs {i : Int} (k : Q (.int (if i < 0 then -i else i)) H) : AbsS [.int i] H Q := ⟨i, rfl, k⟩
def MinS : List V → Hp → VK → Prop := fun xs H Q => ∃ i j, xs = [.int i, .int j] ∧ Q (.int (if j < i then j else i)) H
def MaxS : List V → Hp → VK → Prop := fun xs H Q => ∃ i j, xs = [.int i, .int j] ∧ Q (.int (if j > i then j else i)) H
theorem cr_min2 {X : Cx} (hc : X.calm = true) : CallR X (.builtin "min") MinS := call_min2 hc
theorem cr_max2 {X : Cx} (hc : X.calm = true) : CallR X (.builtin "max") MaxS := call_max2 hc
theorem r_min {i j : Int} (k : Q (.int (min i j)) H) : MinS [.int i, .int j] H Q := ⟨i, j, rfl, by
  have e : (if j < i then j else i) = min i j := by split <;> omega
  rw [e]; exact k⟩
theorem r_max {i j : Int} (k : Q (.int (max i j)) H) : MaxS [.int i, .int j] H Q := ⟨i, j, rfl, by
  have e : (if j > i then j else i) = max i j := by split <;> omega
  rw [e]; exact k⟩
def ListS (K : PySem.W.Frag) : List V → Hp → VK → Prop := fun xs H Q => ∃ p ys, xs = [.ref p] ∧ (SqL K H p ys ∨ SqT K H p ys) ∧ ∀ l, H l = none → Q (.ref l) (upd H l (.lst ys))
theorem cr_list {X : Cx} : CallR X (.type "list") (ListS X.K) := call_list_of
theorem r_listL {p : Addr} {ys : List V} (h : SqL K H p ys) (k : ∀ l H', H l = none → Ext H H' → H' l = some (.lst ys) → Q (.ref l) H') : ListS K [.ref p] H Q := ⟨p, ys, rfl, .inl h, fun l hl => k l _ hl (Ext.new hl) upd_same⟩
theorem r_listT {p : Addr} {ys : List V} (h : SqT K H p ys) (k : ∀ l H', H l = none → Ext H H' → H' l = some (.lst ys) → Q (.ref l) H') : ListS K [.ref p] H Q := ⟨p, ys, rfl, .inr h, fun l hl => k l _ hl (Ext.new hl) upd_same⟩
theorem r_sum {p : Addr} {ns : List Int} (h : SqL K H p (ns.map V.int)) (k : Q (.int ns.sum) H) : rSum K [.ref p] H Q := ⟨p, ns, rfl, h, k⟩
theorem r_slL {p : Addr} {xs : List V} {lo hi : Option Int} (h : SqL K H p xs) (k : ∀ l H', H l = none → Ext H H' → H' l = some (.lst (cutV xs lo hi)) → Q (.ref l) H') : rSlL K (.ref p) lo hi H Q := ⟨p, xs, rfl, h, fun l hl => k l _ hl (Ext.new hl) upd_same⟩
theorem r_catL {l b : Addr} {xs zs : List V} (h1 : H l = some (.lst xs)) (h2 : H b = some (.lst zs)) (hz : xs.length + zs.length ≤ 100000) (k : ∀ p H', H p = none → Ext H H' → H' p = some (.lst (xs ++ zs)) → Q (.ref p) H') : rPlus K (.ref l) (.ref b) H Q :=
  .inr (.inl ⟨l, b, xs, zs, rfl, rfl, h1, h2, Nat.le_trans hz (by decide), fun p hp => k p _ hp (Ext.new hp) upd_same⟩)
theorem r_popAt {l : Addr} {xs : List V} {i : Int} {j : Nat} {v : V} (h : H l = some (.lst xs)) (ei : i = (j : Int)) (hj : j < 100000) (e : xs[j]? = some v) (k : ∀ H', H' l = some (.lst (xs.eraseIdx j)) → (∀ b, b ≠ l → H' b = H b) → Q v H') : rPopAt (.ref l) [.int i] H Q := by
  subst ei
  have hl : j < xs.length := (List.getElem?_eq_some_iff.mp e).1
  exact ⟨l, xs, (j : Int), j, v, rfl, rfl, h, by omega, by omega, seqIndex_of (by omega) (by omega), e, k _ upd_same fun b hb => upd_ne hb⟩
theorem r_pow {i j : Int} (h : 0 ≤ j ∧ j ≤ 1000000 ∧ i.natAbs < 2 ^ 64) (k : Q (.int (i ^ j.toNat)) H) : rI CPow (fun i j => .int (i ^ j.toNat)) (.int i) (.int j) H Q := ⟨i, j, rfl, rfl, h, k⟩
theorem r_mod {i j : Int} (h : 0 < j) (k : Q (.int (i % j)) H) : rI (fun _ j => 0 < j) (fun i j => .int (i % j)) (.int i) (.int j) H Q := ⟨i, j, rfl, rfl, h, k⟩
theorem r_div {i j : Int} (h : CDivW i j) (k : Q (.int (i / j)) H) : rI CDivW (fun i j => .int (i / j)) (.int i) (.int j) H Q := ⟨i, j, rfl, rfl, h, k⟩
end
end L3
set_option maxRecDepth 100000
set_option maxHeartbeats 4000000
/-! CmF: loops and comprehensions, read by an invariant. -/
namespace L3
open PySem PySem.Spec PyProof.Rows L2 He
def ForW (J : It) (g : TG) (tb : TS) (D : Ends) (σ : L2.St) (H1 : Hp) : Prop := ∃ W : Nat → Nat → L2.St → Hp → Prop, (∃ m, W 0 m σ H1) ∧ ∀ i m σ H, W i m σ H →
  (J.stop i H ∧ D.nx σ H) ∨ (J.go i H ∧ ∃ N : L2.St → Hp → Prop, (∀ σ' H', N σ' H' → ∃ m', m' < m ∧ W (i + 1) m' σ' H') ∧ ∀ x H', J.yld i H x H' → g x σ H' fun σ2 H2 => tb { D with nx := N, ct := N, bk := D.nx } σ2 H2)
def LcW (J : It) (g : TG) (tt : TT) (te : TE) (vs : List Nat) (σ : L2.St) (D : Addr) (Qd : Hp → Prop) (H1 : Hp) : Prop := ∃ W : Nat → Nat → Hp → Prop, (∃ m, W 0 m (upd H1 D (.lst []))) ∧ ∀ i m H, W i m H →
  (J.stop i H ∧ Qd H) ∨ (J.go i H ∧ ∃ Nx : Hp → Prop, (∀ H', Nx H' → ∃ m', m' < m ∧ W (i + 1) m' H') ∧ ∀ x H', J.yld i H x H' → g x (wipe σ vs) H' fun σ2 H2 => wipe σ2 vs = wipe σ vs ∧ tt σ2 H2 fun b H3 =>
    if b = true then te σ2 H3 fun y H4 => ∃ acc, H4 D = some (.lst acc) ∧ acc.length < sizeLine ∧ Nx (upd H4 D (.lst (acc ++ [y]))) else Nx H3)
section
variable {σ : L2.St} {H : Hp} {D : Ends} {K : PySem.W.Frag} {g : TG} {tb : TS} {wi : TI} {ta : TA} {tl te : TE} {tt : TT} {R : It → Hp → Prop} {nx bk ct : L2.St → Hp → Prop} {rt : VK} {Q : VK}
theorem r_for (k : wi σ H fun J H1 => ForW J g tb D σ H1) : tFor wi g tb D σ H := k
theorem r_lc {vs : List Nat} (k : wi σ H fun J H1 => ∀ D, H1 D = none → LcW J g tt te vs σ D (fun H => Q (.ref D) H) H1) : tLc wi g tt te vs σ H Q := k
def Rg1 (vs : List V) (H1 : Hp) (R : It → Hp → Prop) : Prop := ∃ j : Int, vs = [.int j] ∧ -(2 ^ 62) ≤ j ∧ j < 2 ^ 62 ∧ R (Itr 0 j.toNat) H1
def Rg2 (vs : List V) (H1 : Hp) (R : It → Hp → Prop) : Prop := ∃ i j : Int, vs = [.int i, .int j] ∧ (-(2 ^ 62) ≤ i ∧ i < 2 ^ 62 ∧ -(2 ^ 62) ≤ j ∧ j < 2 ^ 62) ∧ R (Itr i (j - i).toNat) H1
def LiI (K : PySem.W.Frag) (x : V) (H1 : Hp) (R : It → Hp → Prop) : Prop := ∃ a, x = .ref a ∧ (∃ xs, SqL K H1 a xs) ∧ R (Itl K a) H1
def TiI (K : PySem.W.Frag) (x : V) (H1 : Hp) (R : It → Hp → Prop) : Prop := ∃ a, x = .ref a ∧ (∃ xs, SqT K H1 a xs) ∧ R (Itt K a) H1
theorem r_iR1 (k : ta σ H fun vs H1 => Rg1 vs H1 R) : iRng1 ta σ H R := k
theorem r_rg1 {j : Int} (h : -(2 ^ 62) ≤ j ∧ j < 2 ^ 62) (k : R (Itr 0 j.toNat) H) : Rg1 [V.int j] H R := ⟨j, rfl, h.1, h.2, k⟩
theorem r_iR2 (k : ta σ H fun vs H1 => Rg2 vs H1 R) : iRng2 ta σ H R := k
theorem r_rg2 {i j : Int} (h : -(2 ^ 62) ≤ i ∧ i < 2 ^ 62 ∧ -(2 ^ 62) ≤ j ∧ j < 2 ^ 62) (k : R (Itr i (j - i).toNat) H) : Rg2 [V.int i, V.int j] H R := ⟨i, j, rfl, h, k⟩
theorem r_iL (k : tl σ H fun x H1 => LiI K x H1 R) : iList K tl σ H R := k
theorem r_iT (k : tl σ H fun x H1 => TiI K x H1 R) : iTup K tl σ H R := k
theorem r_li {a : Addr} {xs : List V} (h : SqL K H a xs) (k : R (Itl K a) H) : LiI K (.ref a) H R := ⟨a, rfl, ⟨xs, h⟩, k⟩
theorem r_ti {a : Addr} {xs : List V} (h : SqT K H a xs) (k : R (Itt K a) H) : TiI K (.ref a) H R := ⟨a, rfl, ⟨xs, h⟩, k⟩
/-- for over a range: Pv of the turn, the slots, the heap -/
theorem forW_range {lo : Int} {n : Nat} (Pv : Nat → L2.St → Hp → Prop) (h0 : Pv 0 σ H) (hs : ∀ i σ H, i < n → Pv i σ H → g (.int (lo + i)) σ H fun σ2 H2 => tb ⟨Pv (i + 1), rt, nx, Pv (i + 1)⟩ σ2 H2) (hd : ∀ σ H, Pv n σ H → nx σ H) : ForW (Itr lo n) g tb ⟨nx, rt, bk, ct⟩ σ H :=
  for_range (D := ⟨nx, rt, bk, ct⟩) Pv h0 hs hd
theorem forW_list {a : Addr} {xs : List V} (Pv : Nat → L2.St → Hp → Prop) (h0 : Pv 0 σ H) (hl : ∀ i σ H, i ≤ xs.length → Pv i σ H → SqL K H a xs) (hs : ∀ i x σ H, xs[i]? = some x → Pv i σ H → g x σ H fun σ2 H2 => tb ⟨Pv (i + 1), rt, nx, Pv (i + 1)⟩ σ2 H2)
    (hd : ∀ σ H, Pv xs.length σ H → nx σ H) : ForW (Itl K a) g tb ⟨nx, rt, bk, ct⟩ σ H := for_list (D := ⟨nx, rt, bk, ct⟩) Pv h0 hl hs hd
theorem forW_tup {a : Addr} {xs : List V} (Pv : Nat → L2.St → Hp → Prop) (h0 : Pv 0 σ H) (hl : ∀ i σ H, i ≤ xs.length → Pv i σ H → SqT K H a xs) (hs : ∀ i x σ H, xs[i]? = some x → Pv i σ H → g x σ H fun σ2 H2 => tb ⟨Pv (i + 1), rt, nx, Pv (i + 1)⟩ σ2 H2)
    (hd : ∀ σ H, Pv xs.length σ H → nx σ H) : ForW (Itt K a) g tb ⟨nx, rt, bk, ct⟩ σ H := for_tup (D := ⟨nx, rt, bk, ct⟩) Pv h0 hl hs hd
/-- while, by a word that falls -/
theorem whileW {c : TT} (W : Nat → L2.St → Hp → Prop) (m0 : Nat) (h0 : W m0 σ H)
    (hs : ∀ m σ H, W m σ H → c σ H fun b H1 => if b = true then ∃ N : L2.St → Hp → Prop, (∀ σ' H', N σ' H' → ∃ m', m' < m ∧ W m' σ' H') ∧ tb ⟨N, rt, nx, N⟩ σ H1 else nx σ H1) : tWhile c tb ⟨nx, rt, bk, ct⟩ σ H := ⟨W, ⟨m0, h0⟩, hs⟩
theorem r_N {W : Nat → L2.St → Hp → Prop} {m : Nat} (k : tb ⟨fun σ' H' => ∃ m', m' < m ∧ W m' σ' H', rt, nx, fun σ' H' => ∃ m', m' < m ∧ W m' σ' H'⟩ σ H) :
    ∃ N : L2.St → Hp → Prop, (∀ σ' H', N σ' H' → ∃ m', m' < m ∧ W m' σ' H') ∧ tb ⟨N, rt, nx, N⟩ σ H := ⟨_, fun _ _ h => h, k⟩
theorem r_gname {i : Nat} {v : V} {P : L2.St → Hp → Prop} (k : P (σ.set i (some v)) H) : gName i v σ H P := k
theorem r_gtup {n : Nat} {t : TGs} {a : Addr} {xs : List V} {P : L2.St → Hp → Prop} (h : SqT K H a xs) (hn : xs.length = n) (k : t xs σ H P) : gTup K n t (.ref a) σ H P := ⟨a, xs, rfl, h, hn, k⟩
theorem r_glst {n : Nat} {t : TGs} {a : Addr} {xs : List V} {P : L2.St → Hp → Prop} (h : SqL K H a xs) (hn : xs.length = n) (k : t xs σ H P) : gLst K n t (.ref a) σ H P := ⟨a, xs, rfl, h, hn, k⟩
theorem r_gcons {t : TG} {u : TGs} {v : V} {r : List V} {P : L2.St → Hp → Prop} (k : t v σ H fun σ' H' => u r σ' H' P) : gCons t u (v :: r) σ H P := ⟨v, r, rfl, k⟩
theorem r_gnil {P : L2.St → Hp → Prop} (k : P σ H) : gNil [] σ H P := ⟨rfl, k⟩
/-! comprehensions -/
theorem lcW_range {lo : Int} {n : Nat} {vs : List Nat} {Dl : Addr} {Qd : Hp → Prop} (Pv : Nat → Hp → Prop) (h0 : Pv 0 (upd H Dl (.lst []))) (hs : ∀ i H, i < n → Pv i H → g (.int (lo + i)) (wipe σ vs) H fun σ2 H2 => wipe σ2 vs = wipe σ vs ∧ tt σ2 H2 fun b H3 =>
      if b = true then te σ2 H3 fun y H4 => ∃ acc, H4 Dl = some (.lst acc) ∧ acc.length < sizeLine ∧ Pv (i + 1) (upd H4 Dl (.lst (acc ++ [y]))) else Pv (i + 1) H3) (hd : ∀ H, Pv n H → Qd H) : LcW (Itr lo n) g tt te vs σ Dl Qd H := lc_range Pv h0 hs hd
theorem lcW_list {a : Addr} {xs : List V} {vs : List Nat} {Dl : Addr} {Qd : Hp → Prop} (Pv : Nat → Hp → Prop) (h0 : Pv 0 (upd H Dl (.lst []))) (hl : ∀ i H, i ≤ xs.length → Pv i H → SqL K H a xs)
    (hs : ∀ i x H, xs[i]? = some x → Pv i H → g x (wipe σ vs) H fun σ2 H2 => wipe σ2 vs = wipe σ vs ∧ tt σ2 H2 fun b H3 =>
      if b = true then te σ2 H3 fun y H4 => ∃ acc, H4 Dl = some (.lst acc) ∧ acc.length < sizeLine ∧ Pv (i + 1) (upd H4 Dl (.lst (acc ++ [y]))) else Pv (i + 1) H3) (hd : ∀ H, Pv xs.length H → Qd H) : LcW (Itl K a) g tt te vs σ Dl Qd H := lc_list Pv h0 hl hs hd
/-- what has been made so far: one value a turn -/
structure LcP (H1 : Hp) (Dl : Addr) (f : Nat → V) (i : Nat) (H' : Hp) : Prop where
  e : Ext H1 H'
  d : H' Dl = some (.lst ((List.range i).map f))
theorem LcP.start {H1 : Hp} {Dl : Addr} {f : Nat → V} (hD : H1 Dl = none) : LcP H1 Dl f 0 (upd H1 Dl (.lst [])) := ⟨Ext.new hD, upd_same⟩
theorem LcP.push {H1 H' H4 : Hp} {Dl : Addr} {f : Nat → V} {i : Nat} {y : V} (p : LcP H1 Dl f i H') (hD : H1 Dl = none) (hi : i < 100000) (e : Ext H' H4) (ey : y = f i) : ∃ acc, H4 Dl = some (.lst acc) ∧ acc.length < sizeLine ∧ LcP H1 Dl f (i + 1) (upd H4 Dl (.lst (acc ++ [y]))) := by
  refine ⟨_, e _ _ p.d, ?_, Ext.mut (p.e.trans e) hD, ?_⟩
  · rw [List.length_map, List.length_range]
    exact Nat.lt_of_lt_of_le hi (by decide)
  · rw [upd_same, List.range_succ, List.map_append, ey]
    rfl
theorem r_yes {P : Bool → Hp → Prop} (k : P true H) : tYes σ H P := k
theorem r_lcW {vs : List Nat} {σ2 : L2.St} {P : Prop} (e : wipe σ2 vs = wipe σ vs) (k : P) : wipe σ2 vs = wipe σ vs ∧ P := ⟨e, k⟩
end
end L3
namespace L3
open PySem PySem.Spec PyProof.Rows L2 He
/-- a statement, then the rest, with a word between -/
theorem r_cut {t u : TS} {nx bk ct : L2.St → Hp → Prop} {rt : VK} {σ : L2.St} {H : Hp} (M : L2.St → Hp → Prop) (h1 : t ⟨M, rt, bk, ct⟩ σ H) (h2 : ∀ σ' H', M σ' H' → u ⟨nx, rt, bk, ct⟩ σ' H') : C8.tCut t u ⟨nx, rt, bk, ct⟩ σ H := ⟨M, h1, h2⟩
theorem ifI {b : Bool} {x y : Int} {Q : VK} {H : Hp} (k : Q (.int (if b = true then x else y)) H) : if b = true then Q (.int x) H else Q (.int y) H := by cases b <;> exact k
end L3
namespace L3
open PySem PySem.Spec PyProof.Rows L2 He
theorem cut_to (xs : List V) (k : Nat) : cutV xs none (some (k : Int)) = xs.take k := by
  unfold cutV
  rw [HT.sIx_none, HT.sIx_nat, List.drop_zero, Nat.sub_zero]
  by_cases h : k ≤ xs.length
  · rw [Nat.min_eq_left h]
  · rw [Nat.min_eq_right (by omega), List.take_of_length_le (Nat.le_refl _), List.take_of_length_le (by omega)]
theorem cut_from (xs : List V) (k : Nat) : cutV xs (some (k : Int)) none = xs.drop k := by
  unfold cutV
  rw [HT.sIx_none, HT.sIx_nat]
  by_cases h : k ≤ xs.length
  · rw [Nat.min_eq_left h, List.take_of_length_le (by rw [List.length_drop] <;> omega)]
  · rw [Nat.min_eq_right (Nat.le_of_lt (Nat.lt_of_not_le h)), List.drop_of_length_le (Nat.le_refl _), List.drop_of_length_le (Nat.le_of_lt (Nat.lt_of_not_le h)), List.take_nil]
theorem cut_at (xs : List V) (i j : Nat) : cutV xs (some (i : Int)) (some (j : Int)) = (xs.drop i).take (j - i) := by
  unfold cutV
  rw [HT.sIx_nat, HT.sIx_nat]
  by_cases h : i ≤ xs.length
  · rw [Nat.min_eq_left h]
    by_cases h2 : j ≤ xs.length
    · rw [Nat.min_eq_left h2]
    · rw [Nat.min_eq_right (by omega), List.take_of_length_le (by rw [List.length_drop] <;> omega), List.take_of_length_le (by rw [List.length_drop] <;> omega)]
  · rw [Nat.min_eq_right (a := i) (Nat.le_of_lt (Nat.lt_of_not_le h)), List.drop_of_length_le (Nat.le_refl _), List.drop_of_length_le (Nat.le_of_lt (Nat.lt_of_not_le h)), List.take_nil, List.take_nil]
theorem range_ints (ns : List Int) (g : Int → Int) : (List.range ns.length).map (fun i => V.int (g (ns.getD i 0))) = (ns.map g).map V.int := by
  apply List.ext_getElem
  · simp
  · intro i h1 h2
    simp at h1 h2 ⊢
    simp [h1]
theorem ints_get {ns : List Int} {i : Nat} {x : V} (h : (ns.map V.int)[i]? = some x) : i < ns.length ∧ x = .int (ns.getD i 0) := by
  rw [List.getElem?_map] at h
  cases e : ns[i]? with
  | none => rw [e] at h; cases h
  | some z =>
    rw [e] at h
    obtain ⟨h1, h2⟩ := List.getElem?_eq_some_iff.mp e
    refine ⟨h1, ?_⟩
    have : x = .int z := (Option.some.inj h).symm
    rw [this, List.getD_eq_getElem?_getD, e]
    rfl
end L3
namespace L3
open PySem PySem.Spec PyProof.Rows L2 He
/-- x if c else y, both written ints; if b then .. -/
def IfI (b : Bool) (x y : Int) (H : Hp) (Q : VK) : Prop := Q (.int (if b = true then x else y)) H
theorem mono_ifC {b : Bool} {x y : Int} {H : Hp} {Q : VK} (k : IfI b x y H Q) : if b = true then tC (.int x) [] H Q else tC (.int y) [] H Q := by cases b <;> exact k
def tIfC (c : TT) (x y : Int) : TE := fun σ H Q => c σ H fun b H1 => IfI b x y H1 Q
theorem r_ifI {b : Bool} {x y : Int} {H : Hp} {Q : VK} (k : Q (.int (if b = true then x else y)) H) : IfI b x y H Q := k
theorem tIfC_eq (c : TT) (x y : Int) : tIfC c x y = tIf c (tC (.int x)) (tC (.int y)) := by
  funext σ H Q
  unfold tIfC tIf IfI tC
  have e : (fun (b : Bool) (H1 : Hp) => Q (.int (if b = true then x else y)) H1) = fun b H1 => if b = true then Q (.int x) H1 else Q (.int y) H1 := by
    funext b H1
    cases b <;> rfl
  rw [e]
theorem r_ifC {c : TT} {x y : Int} {σ : L2.St} {H : Hp} {Q : VK} (k : c σ H fun b H1 => IfI b x y H1 Q) : tIf c (tC (.int x)) (tC (.int y)) σ H Q := by
  rw [← tIfC_eq]
  exact k
end L3
set_option maxRecDepth 100000
set_option maxHeartbeats 4000000
/-! CmG: sources of draws; what stays when one object changes. -/
namespace L3
open PySem PySem.Spec PyProof.Rows L2 He
/-- a source of draws: three ints -/
def Src (H : Hp) (p : Addr) : Prop := ∃ a b c : Int, H p = some (.lst [.int a, .int b, .int c])
theorem Src.ext {H H' : Hp} {p : Addr} (s : Src H p) (e : Ext H H') : Src H' p := by obtain ⟨a, b, c, h⟩ := s; exact ⟨a, b, c, e _ _ h⟩
def spSource (K : PySem.W.Frag) : Sp := fun vs H Q _ => ∃ (a : Addr) (ns : List Int) (t : Nat), vs = [.ref a, .int t] ∧ SqL K H a (ns.map V.int) ∧ ns.length ≤ 63 ∧ t ≤ 1000 ∧ ∀ p H', H p = none → Ext H H' → Src H' p → Q (.ref p) H'
theorem pos128 : (0 : Int) < 10 ^ (64 : Int).toNat * 10 ^ (64 : Int).toNat := by decide
theorem bd128 : ((10 : Int) ^ (64 : Int).toNat).natAbs < 2 ^ 250 := by decide
theorem bd31 (x : Int) : 0 ≤ x % 2147483629 ∧ x % 2147483629 < 2147483629 := ⟨Int.emod_nonneg _ (by decide), Int.emod_lt_of_pos _ (by decide)⟩
/-- a draw below many: any number below it, only the source changes -/
def spPick : Sp := fun vs H Q _ => ∃ (p : Addr) (m : Int), vs = [.ref p, .int m] ∧ Src H p ∧ 0 < m ∧ m < 2 ^ 250 ∧ ∀ r H', 0 ≤ r → r < m → Src H' p → (∀ b, b ≠ p → H' b = H b) → Q (.int r) H'
/-- an address b of the heap stays when only p changes -/
theorem stay {H H' : Hp} {p b : Addr} {o : HO} (n : ∀ b, b ≠ p → H' b = H b) (hb : b ≠ p) (h : H b = some o) : H' b = some o := (n b hb).trans h
/-- all but p as it was -/
def But (p : Addr) (H H' : Hp) : Prop := ∀ b o, b ≠ p → H b = some o → H' b = some o
theorem But.rfl {p : Addr} {H : Hp} : But p H H := fun _ _ _ h => h
theorem But.of {p : Addr} {H H' : Hp} (n : ∀ b, b ≠ p → H' b = H b) : But p H H' := fun b o hb h => (n b hb).trans h
theorem But.ext {p : Addr} {H H1 H2 : Hp} (b : But p H H1) (e : Ext H1 H2) : But p H H2 := fun c o hc h => e _ _ (b c o hc h)
theorem ext_but {p : Addr} {H H1 : Hp} (e : Ext H H1) : But p H H1 := fun c o _ h => e _ _ h
theorem But.trans {p : Addr} {H H1 H2 : Hp} (a : But p H H1) (b : But p H1 H2) : But p H H2 := fun c o hc h => b c o hc (a c o hc h)
theorem But.mut {p q : Addr} {H H1 H2 : Hp} (a : But p H H1) (hq : H q = none) (n : ∀ b, b ≠ q → H2 b = H1 b) : But p H H2 := fun c o hc h => (n c (ne_of_none h hq)).trans (a c o hc h)
theorem But.l {K : PySem.W.Frag} {p a : Addr} {H H' : Hp} {xs : List V} (b : But p H H') (ha : a ≠ p) (h : SqL K H a xs) : SqL K H' a xs := by
  rcases h with (h | ⟨o, h⟩) | h
  · exact .inl (.inl (b _ _ ha h))
  · exact .inl (.inr ⟨o, b _ _ ha h⟩)
  · exact .inr h
theorem sq_ne {K : PySem.W.Frag} {p a : Addr} {H : Hp} {xs ys : List V} (h : H p = some (.lst ys)) (ha : SqL K H a xs) (e : xs ≠ ys) : a ≠ p ∨ ∃ o, K.lookup a = some o := by
  rcases ha with (q | ⟨o, q⟩) | ⟨o, _, _, q, _⟩
  · refine .inl fun z => ?_
    rw [z, h] at q
    exact e (by injection (Option.some.inj q) with z; exact z.symm)
  · refine .inl fun z => ?_
    rw [z, h] at q
    cases q
  · exact .inr ⟨o, q⟩
theorem src_ne {p q : Addr} {H : Hp} (s : Src H p) (h : H q = none) : p ≠ q := by
  obtain ⟨a, b, c, e⟩ := s
  exact ne_of_none e h
theorem eraseIdx_perm {α : Type} : ∀ {xs : List α} {j : Nat} {x : α}, xs[j]? = some x → (x :: xs.eraseIdx j).Perm xs
  | [], j, x, h => by simp at h
  | y :: xs, 0, x, h => by simp at h; subst h; exact .refl _
  | y :: xs, j + 1, x, h => by
    have h' : xs[j]? = some x := by simpa using h
    show (x :: y :: xs.eraseIdx j).Perm (y :: xs)
    exact (List.Perm.swap _ _ _).trans ((eraseIdx_perm h').cons y)
def spShuf (K : PySem.W.Frag) : Sp := fun vs H Q _ => ∃ (p t : Addr) (xs : List V), vs = [.ref p, .ref t] ∧ Src H p ∧ SqL K H t xs ∧ xs.length ≤ 10000 ∧
  ∀ q H' (ys : List V), H q = none → ys.Perm xs → Src H' p → H' q = some (.lst ys) → But p H H' → Q (.ref q) H'
end L3
set_option maxRecDepth 100000
set_option maxHeartbeats 4000000
/-! CmH: data of any depth; isinstance of it. -/
namespace L3
open PySem PySem.Spec PyProof.Rows L2 He
theorem pe_ty {X : Cx} {n : String} {pos : Pos} (hm : X.mg (Str.ofString n) = none) (hg : Gl X (Str.ofString n) := by rfl) (hv : bootBuiltins (Str.ofString n) = some (.type n) := by decide +kernel) (hn : Str.ofString n ≠ "__name__" := by decide) (hd : (Str.ofString n == ("__debug__" : Str)) = false := by decide) :
    PE X (.Name (Str.ofString n) pos) (tC (.ty n)) := pe_bltn hg hm hv rfl hn hd
/-- a def's promise that asks what cannot be -/
theorem calG_false {P : Program} {w : World} {K : PySem.W.Frag} {mg : Str → Option Value} {base : Heap} {k : Nat} {x : Str} {st : Stmt} {ps : List Str} (hg : mg x = some (.ref (ga K x))) (D : ∃ fd, FunD K x x (defArgs st) (defBody st) (defScope st) [] [] (ga K x) fd)
    (hb : ∀ (dV kV doc pm : Value) (an : Option Addr) (cdv ct : Value) (us : List Value), us.length = ps.length → bindArgs (PySem.W.fnOf x x (defArgs st) (defBody st) (defScope st) .none kV doc pm an cdv ct) ⟨us, []⟩ = pure (ps.zip us)) : CalG P w K mg base k x ps (fun _ _ _ _ => False) := by
  obtain ⟨fd, F⟩ := D
  exact ⟨hg, ⟨fd, ⟨fun _ _ _ _ z => z.elim, fun _ _ _ _ _ _ _ _ _ _ _ _ _ z => z.elim⟩, F.bindsN fun kV doc pm an cdv ct us hl => hb .none kV doc pm an cdv ct us hl⟩, F.kp⟩
section
variable {K : PySem.W.Frag} {H H' : Hp}
mutual
theorem Ext.dp (e : Ext H H') : ∀ (d : PyData) {x : V}, Dp K H x d → Dp K H' x d
  | .none, _, .non => .non
  | .bool b, _, .bl _ => .bl b
  | .int i, _, .int _ => .int i
  | .str s, _, .str _ => .str s
  | .list ds, _, .lst h hs => .lst (e.l h) (Ext.dps e ds hs)
  | .tuple ds, _, .tup h hs => .tup (e.tu h) (Ext.dps e ds hs)
theorem Ext.dps (e : Ext H H') : ∀ (ds : List PyData) {xs : List V}, DpAll K H xs ds → DpAll K H' xs ds
  | [], _, .nil => .nil
  | d :: ds, _, .cons h hs => .cons (Ext.dp e d h) (Ext.dps e ds hs)
end
theorem dps_len : ∀ {xs : List V} {ds : List PyData}, DpAll K H xs ds → xs.length = ds.length
  | _, _, .nil => rfl
  | _, _, .cons _ h => by rw [List.length_cons, List.length_cons, dps_len h]
theorem dps_get : ∀ {xs : List V} {ds : List PyData} {i : Nat} {d : PyData}, DpAll K H xs ds → ds[i]? = some d → ∃ x, xs[i]? = some x ∧ Dp K H x d
  | _, _, i, d, .nil, e => by simp at e
  | _, _, 0, d, .cons h _, e => by simp at e; subst e; exact ⟨_, rfl, h⟩
  | _, _, i + 1, d, .cons _ h, e => by
    obtain ⟨x, e1, h1⟩ := dps_get (i := i) h (by simpa using e)
    exact ⟨x, by simpa using e1, h1⟩
theorem dps_ints : ∀ (ns : List Int), DpAll K H (ns.map V.int) (ns.map PyData.int)
  | [] => .nil
  | n :: ns => .cons (.int n) (dps_ints ns)
theorem dps_append : ∀ {xs ys : List V} {ds es : List PyData}, DpAll K H xs ds → DpAll K H ys es → DpAll K H (xs ++ ys) (ds ++ es)
  | _, _, _, _, .nil, h => h
  | _, _, _, _, .cons h t, g => .cons h (dps_append t g)
/-- the type's name -/
def tyD : PyData → String
  | .none => "NoneType"
  | .bool _ => "bool"
  | .int _ => "int"
  | .str _ => "str"
  | .list _ => "list"
  | .tuple _ => "tuple"
  | .dict _ => "dict"
theorem dp_ty {x : V} {d : PyData} (h : Dp K H x d) : TyX K H x (.type (tyD d)) := by
  cases h with
  | non => exact .base .non
  | bl b => exact .base (.bl b)
  | int i => exact .base (.int i)
  | str s => exact .base (.str s)
  | lst h _ =>
    rcases h with (h | ⟨o, h⟩) | ⟨o, _, _, h, c, _⟩
    · exact .base (.lst h)
    · exact .base (.frz h)
    · exact .kList h c
  | tup h _ =>
    rcases h with (h | ⟨o, h⟩) | ⟨o, _, _, h, c, _⟩
    · exact .base (.tup h)
    · exact .fTuple h
    · exact .kTuple h c
def tys : List String := ["NoneType", "bool", "int", "str", "list", "tuple"]
def isB (a b : String) : Bool := decide (a = b) || (decide (a = "bool") && decide (b = "int"))
theorem kit6 : ∀ a ∈ tys, ∀ b ∈ ["list", "tuple", "dict", "bool", "str", "int"], kitB a b = some (isB a b) := by decide +kernel
theorem ty_in {x : V} {d : PyData} (h : Dp K H x d) : tyD d ∈ tys := by cases h <;> simp [tyD, tys]
theorem kit_is {x : V} {d : PyData} (h : Dp K H x d) {b : String} (hb : b ∈ ["list", "tuple", "dict", "bool", "str", "int"]) : PySem.W.kitOne K (.type (tyD d)) (.type b) = some (isB (tyD d) b) := kit_ty (kit6 _ (ty_in h) _ hb)
variable {Q : VK}
/-- isinstance(x, T) -/
theorem r_isi {x : V} {d : PyData} {b : String} (h : Dp K H x d) (hb : b ∈ ["list", "tuple", "dict", "bool", "str", "int"]) (k : Q (.bl (isB (tyD d) b)) H) : rIsi K [x, .ty b] H Q := ⟨x, _, _, _, _, rfl, .ty b, dp_ty h, kit_is h hb, k⟩
theorem kitAny2 {a b c : String} {p q : Bool} (h1 : PySem.W.kitOne K (.type a) (.type b) = some p) (h2 : PySem.W.kitOne K (.type a) (.type c) = some q) : PySem.W.kitAny K (.type a) [.type b, .type c] = some (p || q) := by
  unfold PySem.W.kitAny
  rw [h1]
  cases p
  · show PySem.W.kitAny K (.type a) [.type c] = some q
    unfold PySem.W.kitAny
    rw [h2]
    cases q <;> rfl
  · rfl
theorem kitAny3 {a b c d : String} {p q r : Bool} (h1 : PySem.W.kitOne K (.type a) (.type b) = some p) (h2 : PySem.W.kitOne K (.type a) (.type c) = some q) (h3 : PySem.W.kitOne K (.type a) (.type d) = some r) : PySem.W.kitAny K (.type a) [.type b, .type c, .type d] = some (p || (q || r)) := by
  unfold PySem.W.kitAny
  rw [h1]
  cases p
  · show PySem.W.kitAny K (.type a) [.type c, .type d] = some (q || r)
    exact kitAny2 h2 h3
  · rfl
/-- isinstance(x, (T, U)) -/
theorem r_isi2 {x : V} {d : PyData} {b c : String} {t : Addr} (h : Dp K H x d) (ht : H t = some (.tup [.ty b, .ty c])) (hb : b ∈ ["list", "tuple", "dict", "bool", "str", "int"]) (hc : c ∈ ["list", "tuple", "dict", "bool", "str", "int"])
    (k : Q (.bl (isB (tyD d) b || isB (tyD d) c)) H) : rIsiT K [x, .ref t] H Q := ⟨x, t, _, _, _, _, rfl, ht, .cons (.ty b) (.cons (.ty c) .nil), dp_ty h, kitAny2 (kit_is h hb) (kit_is h hc), k⟩
theorem r_isi3 {x : V} {d : PyData} {b c e : String} {t : Addr} (h : Dp K H x d) (ht : H t = some (.tup [.ty b, .ty c, .ty e])) (hb : b ∈ ["list", "tuple", "dict", "bool", "str", "int"]) (hc : c ∈ ["list", "tuple", "dict", "bool", "str", "int"]) (he : e ∈ ["list", "tuple", "dict", "bool", "str", "int"])
    (k : Q (.bl (isB (tyD d) b || (isB (tyD d) c || isB (tyD d) e))) H) : rIsiT K [x, .ref t] H Q := ⟨x, t, _, _, _, _, rfl, ht, .cons (.ty b) (.cons (.ty c) (.cons (.ty e) .nil)), dp_ty h, kitAny3 (kit_is h hb) (kit_is h hc) (kit_is h he), k⟩
theorem r_all {p : Addr} {bs : List Bool} (h : SqL K H p (bs.map V.bl)) (k : Q (.bl (bs.all id)) H) : rAll K [.ref p] H Q := ⟨p, bs, rfl, h, k⟩
theorem r_any {p : Addr} {bs : List Bool} (h : SqL K H p (bs.map V.bl)) (k : Q (.bl (bs.any id)) H) : rAny K [.ref p] H Q := ⟨p, bs, rfl, h, k⟩
theorem r_isN1 {x : V} (k : Q (.bl (decide (x = .non))) H) : rIsN x .non H Q := ⟨rfl, k⟩
theorem r_notN1 {x : V} (k : Q (.bl (!decide (x = .non))) H) : rNotN x .non H Q := ⟨rfl, k⟩
end
end L3
set_option maxRecDepth 100000
set_option maxHeartbeats 4000000
/-! CmI: the rules with the written part named, so that a reading within a comprehension does not hang on its frame. -/
namespace L3
open PySem PySem.Spec PyProof.Rows L2 He
section
variable {X : Cx} {K : PySem.W.Frag}
theorem ixK (hK : X.K = K := by rfl) : IxR X (rAt K) := hK ▸ ix_at
theorem plusK (hK : X.K = K := by rfl) : OpR X (binaryOp .Add) (rPlus K) := hK ▸ op_plus
theorem sameK (hu : X.A.units + 64 < cLine) (hK : X.K = K := by rfl) : OpR X (compareOp .Eq) (rSame K) := hK ▸ op_same hu
theorem otherK (hu : X.A.units + 64 < cLine) (hK : X.K = K := by rfl) : OpR X (compareOp .NotEq) (rOther K) := hK ▸ op_other hu
theorem inK (hK : X.K = K := by rfl) : OpR X (compareOp .In) (rIn K false) := hK ▸ op_in_seq
theorem notInK (hK : X.K = K := by rfl) : OpR X (compareOp .NotIn) (rIn K true) := hK ▸ op_notIn_seq
theorem lenK (hK : X.K = K := by rfl) : CallR X (.builtin "len") (LenS K) := hK ▸ cr_len
theorem isiK (hK : X.K = K := by rfl) : CallR X (.builtin "isinstance") (rIsi K) := hK ▸ call_isi
theorem isiTK (hK : X.K = K := by rfl) : CallR X (.builtin "isinstance") (rIsiT K) := hK ▸ call_isiT
theorem listK (hK : X.K = K := by rfl) : CallR X (.type "list") (ListS K) := hK ▸ cr_list
def TupS (K : PySem.W.Frag) : List V → Hp → VK → Prop := fun xs H Q => ∃ p ys, xs = [.ref p] ∧ ((SqL K H p ys ∧ ∀ l, H l = none → Q (.ref l) (upd H l (.tup ys))) ∨ (SqT K H p ys ∧ Q (.ref p) H))
theorem tupK (hK : X.K = K := by rfl) : CallR X (.type "tuple") (TupS K) := hK ▸ call_tuple_of
theorem sumK (hc : X.calm = true) (hK : X.K = K := by rfl) : CallR X (.builtin "sum") (rSum K) := hK ▸ cr_sum hc
theorem maxK (hc : X.calm = true) (hK : X.K = K := by rfl) : CallR X (.builtin "max") (rMax K) := hK ▸ cr_max hc
theorem minK (hc : X.calm = true) (hK : X.K = K := by rfl) : CallR X (.builtin "min") (rMin K) := hK ▸ cr_min hc
theorem allK (hc : X.calm = true) (hK : X.K = K := by rfl) : CallR X (.builtin "all") (rAll K) := hK ▸ cr_all hc
theorem anyK (hc : X.calm = true) (hK : X.K = K := by rfl) : CallR X (.builtin "any") (rAny K) := hK ▸ cr_any hc
theorem sortedK (hK : X.K = K := by rfl) : CallR X (.builtin "sorted") (rSortedI K) := hK ▸ cr_sortedI
theorem slK (hK : X.K = K := by rfl) : SlR X (rSlL K) := hK ▸ sl_list
theorem kdictK (hK : X.K = K := by rfl) : IxR X (rIxD K X.w) := hK ▸ ix_kdict
theorem getLK (hK : X.K = K := by rfl) : PGet X (rGetL K) := hK ▸ get_list
theorem indexK (hK : X.K = K := by rfl) : MtR X "list.index" (rIndex K) := hK ▸ mt_index
theorem peBM {T : String} {r : V → List V → Hp → VK → Prop} {to : TE} {t : TA} {e : Expr} (h : PE X e (tBM X.K T r to t)) (hK : X.K = K := by rfl) : PE X e (tBM K T r to t) := hK ▸ h
theorem peBM0 {T : String} {r : V → List V → Hp → VK → Prop} {to : TE} {e : Expr} (h : PE X e (tBM0 X.K T r to)) (hK : X.K = K := by rfl) : PE X e (tBM0 K T r to) := hK ▸ h
theorem piL {tg l : Expr} {tl : TE} (hl : PE X l tl) (hK : X.K = K := by rfl) : PI X tg l (iList K tl) := hK ▸ pi_list hl
theorem piT {tg l : Expr} {tl : TE} (hl : PE X l tl) (hK : X.K = K := by rfl) : PI X tg l (iTup K tl) := hK ▸ pi_tup hl
theorem pgT {es : List Expr} {k : Nat} {t : TGs} {n : Nat} {pos : Pos} (h : PG X (.Tuple es k pos) (gTup X.K n t)) (hK : X.K = K := by rfl) : PG X (.Tuple es k pos) (gTup K n t) := hK ▸ h
theorem pgL {es : List Expr} {k : Nat} {t : TGs} {n : Nat} {pos : Pos} (h : PG X (.Tuple es k pos) (gLst X.K n t)) (hK : X.K = K := by rfl) : PG X (.Tuple es k pos) (gLst K n t) := hK ▸ h
end
end L3
namespace L3
open PySem PySem.Spec PyProof.Rows L2 He
section
variable {K : PySem.W.Frag} {H H' : Hp} {Q : VK}
theorem ite_nt {A B : Prop} (h : B) : if (!true) = true then A else B := h
theorem ite_nf {A B : Prop} (h : A) : if (!false) = true then A else B := h
/-- a list or a tuple of these -/
def Seq (K : PySem.W.Frag) (H : Hp) (a : Addr) (xs : List V) : Prop := SqL K H a xs ∨ SqT K H a xs
theorem Ext.sq {a : Addr} {xs : List V} (e : Ext H H') (h : Seq K H a xs) : Seq K H' a xs := h.elim (fun h => .inl (e.l h)) fun h => .inr (e.tu h)
theorem r_lenA {p : Addr} {ys : List V} {n : Int} (h : Seq K H p ys) (e : (ys.length : Int) = n) (k : Q (.int n) H) : LenS K [.ref p] H Q := ⟨p, ys, rfl, h, by rw [e]; exact k⟩
theorem r_atA {p : Addr} {xs : List V} {i : Int} {v : V} (h : Seq K H p xs) (e : atI xs i = some v) (k : Q v H) : rAt K (.ref p) (.int i) H Q := h.elim (fun h => r_atL h e k) fun h => r_atT h e k
def itemsD : PyData → List PyData
  | .list ds => ds
  | .tuple ds => ds
  | _ => []
theorem dp_seq {x : V} {d : PyData} (h : Dp K H x d) (c : (isB (tyD d) "list" || isB (tyD d) "tuple") = true) : ∃ a xs, x = .ref a ∧ Seq K H a xs ∧ DpAll K H xs (itemsD d) := by
  cases h with
  | lst h hs => exact ⟨_, _, rfl, .inl h, hs⟩
  | tup h hs => exact ⟨_, _, rfl, .inr h, hs⟩
  | _ => simp [isB, tyD] at c
/-- n deep at most, each list short -/
def smallD : Nat → PyData → Prop
  | 0, _ => False
  | n + 1, d => (itemsD d).length ≤ 100000 ∧ ∀ e ∈ itemsD d, smallD n e
theorem small_int (n : Nat) (i : Int) : smallD (n + 1) (.int i) := ⟨Nat.zero_le _, fun _ h => absurd h (List.not_mem_nil)⟩
theorem small_str (n : Nat) (i : Str) : smallD (n + 1) (.str i) := ⟨Nat.zero_le _, fun _ h => absurd h (List.not_mem_nil)⟩
theorem small_bool (n : Nat) (i : Bool) : smallD (n + 1) (.bool i) := ⟨Nat.zero_le _, fun _ h => absurd h (List.not_mem_nil)⟩
theorem small_none (n : Nat) : smallD (n + 1) .none := ⟨Nat.zero_le _, fun _ h => absurd h (List.not_mem_nil)⟩
theorem small_ints (n : Nat) {ns : List Int} (h : ns.length ≤ 100000) : smallD (n + 2) (.list (ns.map PyData.int)) := ⟨by show (ns.map PyData.int).length ≤ _; rw [List.length_map]; exact h, fun e he => by
  obtain ⟨i, _, rfl⟩ := List.mem_map.mp he
  exact small_int n i⟩
theorem small_tup {n : Nat} {ds : List PyData} (h : ds.length ≤ 100000) (k : ∀ e ∈ ds, smallD n e) : smallD (n + 1) (.tuple ds) := ⟨h, k⟩
theorem small_list {n : Nat} {ds : List PyData} (h : ds.length ≤ 100000) (k : ∀ e ∈ ds, smallD n e) : smallD (n + 1) (.list ds) := ⟨h, k⟩
theorem small_mono : ∀ {n m : Nat} {d : PyData}, n ≤ m → smallD n d → smallD m d
  | 0, _, _, _, h => h.elim
  | n + 1, m + 1, d, hm, h => ⟨h.1, fun e he => small_mono (by omega) (h.2 e he)⟩
/-- the same data twice -/
def spSame (K : PySem.W.Frag) (n : Nat) : Sp := fun vs H Q _ => ∃ (x y : V) (d : PyData), vs = [x, y] ∧ Dp K H x d ∧ Dp K H y d ∧ smallD n d ∧ ∀ H', Ext H H' → Q (.bl true) H'
theorem dp_flat {x : V} {d : PyData} (h : Dp K H x d) (c : (isB (tyD d) "list" || isB (tyD d) "tuple") = false) : (d = .none ∧ x = .non) ∨ ((isB (tyD d) "bool" || (isB (tyD d) "int" || isB (tyD d) "str")) = true ∧ x ≠ .non ∧ scal x x = true) := by
  cases h with
  | lst h hs => simp [isB, tyD] at c
  | tup h hs => simp [isB, tyD] at c
  | non => exact .inl ⟨rfl, rfl⟩
  | bl b => exact .inr ⟨by simp [isB, tyD], by simp, rfl⟩
  | int b => exact .inr ⟨by simp [isB, tyD], by simp, rfl⟩
  | str b => exact .inr ⟨by simp [isB, tyD], by simp, rfl⟩
theorem dp_det {x y : V} {d : PyData} (hx : Dp K H x d) (hy : Dp K H y d) (c : (isB (tyD d) "list" || isB (tyD d) "tuple") = false) : x = y := by
  cases hx <;> cases hy <;> first | rfl | simp [isB, tyD] at c
theorem dp_nodict {x : V} {d : PyData} (h : Dp K H x d) : isB (tyD d) "dict" = false := by cases h <;> simp [isB, tyD]
theorem bools_all (n : Nat) : ((List.range n).map fun _ => true).all id = true := by simp
theorem map_bl (n : Nat) : (List.range n).map (fun _ => V.bl true) = ((List.range n).map fun _ => true).map V.bl := by simp
end
end L3
namespace L3
open PySem PySem.Spec PyProof.Rows L2 He
/-- up to the line of sizes -/
theorem LcP.pushB {H1 H' H4 : Hp} {Dl : Addr} {f : Nat → V} {i : Nat} {y : V} (p : LcP H1 Dl f i H') (hD : H1 Dl = none) (hi : i < 16777216) (e : Ext H' H4) (ey : y = f i) : ∃ acc, H4 Dl = some (.lst acc) ∧ acc.length < sizeLine ∧ LcP H1 Dl f (i + 1) (upd H4 Dl (.lst (acc ++ [y]))) := by
  refine ⟨_, e _ _ p.d, ?_, Ext.mut (p.e.trans e) hD, ?_⟩
  · rw [List.length_map, List.length_range, sizeLine_eq]
    exact hi
  · rw [upd_same, List.range_succ, List.map_append, ey]
    rfl
end L3
namespace L3
open PySem PySem.Spec PyProof.Rows L2 He
/-! ### the def that tells an error, called in a suite -/
theorem Kits.yes {K : PySem.W.Frag} {b : Str} {xs : List Str} (k : Kits K b xs) {x : Str} (hx : x ∈ xs) : PySem.W.kitOne K (.ref (ga K x)) (.ref (ga K x)) = some true := by
  have h := k.kit x hx x hx
  rwa [show decide (x = x) = true from decide_eq_true rfl] at h
theorem Kits.no {K : PySem.W.Frag} {b : Str} {xs : List Str} (k : Kits K b xs) {x y : Str} (hx : x ∈ xs) (hy : y ∈ xs) (n : x ≠ y) : PySem.W.kitOne K (.ref (ga K x)) (.ref (ga K y)) = some false := by
  have h := k.kit x hx y hy
  rwa [show decide (x = y) = false from decide_eq_false n] at h
theorem r_isP {K : PySem.W.Frag} {D a dd C : Addr} {b : Bool} {fs : List (Str × V)} {H : Hp} {Q : VK} (hd : H dd = some (.xd fs)) (hk : PySem.W.kitOne K (.ref D) (.ref C) = some b) (k : Q (.bl b) H) : rIsP K D a dd [.ref a, .ref C] H Q :=
  ⟨_, .ref C, b, fs, rfl, hd, fun _ r => r, hk, k⟩
theorem r_isPV {K : PySem.W.Frag} {D a dd : Addr} {n : String} {b : Bool} {fs : List (Str × V)} {H : Hp} {Q : VK} (hd : H dd = some (.xd fs)) (hk : PySem.W.kitOne K (.ref D) (.type n) = some b) (k : Q (.bl b) H) : rIsP K D a dd [.ref a, .ty n] H Q :=
  ⟨_, .type n, b, fs, rfl, hd, fun _ r => r, hk, k⟩
theorem r_xp {D a dd : Addr} {f : Str} {te : TE} {σ : L2.St} {H : Hp} {Q : VK} (k : te σ H fun x H1 => x = .ref a ∧ ∃ (fs : List (Str × V)) (v : V), H1 dd = some (.xd fs) ∧ fs.lookup f = some v ∧ Q v H1) : tXp D a dd f te σ H Q := k
/-- what a def called in a suite promises of the handled error: its place, its class, its dict -/
abbrev SpF := Addr → Value → Option Addr → Sp
def onP (s : SpF) : SpP := fun p => s p.1 p.2.cls p.2.dict
/-- tells of an error of the class x: the tuple of its name and its fields -/
def spFlt (K : PySem.W.Frag) (x : Str) (fs : List Str) : SpF := fun a cls d vs H Q _ => ∃ (dd : Addr) (kv : List (Str × V)) (us : List V), vs = [.ref a] ∧ (cls = .ref (ga K x) ∧ d = some dd) ∧ H dd = some (.xd kv) ∧ fs.map (fun f => kv.lookup f) = us.map some ∧
  ∀ q H', H q = none → Ext H H' → H' q = some (.tup (.str x :: us)) → Q (.ref q) H'
def spFlts (K : PySem.W.Frag) (l : List (Str × List Str)) : SpF := fun a cls d vs H Q E => ∃ x ∈ l, spFlt K x.1 x.2 a cls d vs H Q E
theorem fnP_any {P : Program} {w : World} {K : PySem.W.Frag} {mg : Str → Option Value} {base : Heap} {CX : CXT} {k : Nat} {f : Addr} {fd : FuncData} {ps : List Str} {l : List (Str × List Str)} (h : ∀ x ∈ l, FnP P w K mg base CX k f fd ps (onP (spFlt K x.1 x.2))) :
    FnP P w K mg base CX k f fd ps (onP (spFlts K l)) :=
  ⟨fun p vs H Q E ⟨x, hx, z⟩ => (h x hx).len p vs H Q E z, fun p A outer s H args us vs Q E h1 h2 h3 h4 h5 h6 ⟨x, hx, z⟩ => (h x hx).run p A outer s H args us vs Q E h1 h2 h3 h4 h5 h6 z⟩
structure FaultG (P : Program) (w : World) (K : PySem.W.Frag) (mg : Str → Option Value) (base : Heap) (l : List (Str × List Str)) : Prop where
  g : mg "_law_fault" = some (.ref (ga K "_law_fault"))
  kp : PySem.W.keepIn K (.ref (ga K "_law_fault")) = true
  ok : ∃ fd, FnP P w K mg base (L2N.CX P w) 1 (ga K "_law_fault") fd ["error"] (onP (spFlts K l)) ∧ Binds K fd ["error"] []
theorem hotOf {A : Around} {a : Addr} {oe : Obj} {cls : Value} {d : Option Addr} (hz : L2N.Zn cls d oe) (hf : ∃ vs, oe.data = .fields vs) : L2H.Hot1 (A.mark (some (.ref a))) (a, oe) := by
  obtain ⟨vs, e⟩ := hf
  exact ⟨rfl, vs, e, hz.2.2 vs e⟩
/-- _law_fault(error) in the suite -/
theorem pe_fault {X : Cx} {l : List (Str × List Str)} {a : Addr} {oe : Obj} {cls : Value} {d : Option Addr} {q pos : Pos} {e : Expr} {te : TE} (c : FaultG X.prog X.w X.K X.mg X.base l) (hr : L2H.RoomH 1 X.A) (hz : L2N.Zn cls d oe) (hot : L2H.Hot1 X.A (a, oe)) (hp : (a, oe) ∈ X.pn) (he : PE X e te)
    (hg : Gl X "_law_fault" := by rfl) (h2 : starEach [e] X.env = (false, eval e X.env) :: starEach [] X.env := by rfl) (hpl : (backTo pos (starEach ([] : List Expr) X.env)).any (·.1) = false := by rfl) :
    PE X (.Call (.Name "_law_fault" q) [e] [] pos) (tCallS (spFlts X.K l a cls d) (WE fun _ _ _ _ => False) (tCons te tNil)) := by
  obtain ⟨fd, F, b⟩ := c.ok
  have key := pe_callP (p := (a, oe)) (q := q) (pos := pos) F hr hot hp hg c.g c.kp b passN (pa_cons he pa_nil (hs := h2)) (by decide) h2 hpl
  obtain ⟨e1, e2, _⟩ := hz
  unfold onP at key
  dsimp only at key
  rw [e1, e2] at key
  exact key
/-- one clause «except X as n», X the base of the module's errors -/
theorem r_wAs {K : PySem.W.Frag} {c : Value} {i : Nat} {ts : Addr → Value → Option Addr → TS} {Wout : WX} {D : Ends} {cls : Value} {d : Option Addr} {σ : L2.St} {H : Hp} (e : PySem.W.exmOne K cls c = some true)
    (k : ∀ a, H a = none → ts a cls d ⟨fun σ' H' => D.nx (σ'.set i none) H', D.rt, fun σ' H' => D.bk (σ'.set i none) H', fun σ' H' => D.ct (σ'.set i none) H'⟩ (σ.set i (some (.ref a))) H) : wAs K c i ts Wout D cls d σ H :=
  ⟨true, e, fun _ => k, fun z => nomatch z⟩
end L3
namespace L3
open PySem PySem.Spec PyProof.Rows L2 He
/-- what a try's body is run with -/
structure TryZ (X : Cx) (W : L2.WX) where
  pn : List (Addr × Obj)
  xe : Value → Shared → Prop
  tk : L2N.Takes (X.tr pn xe) W
  hp : PassesOwn (model X.prog X.w) X.A X.env xe
/-- try: .. except x as n: .., the body's reading free to be found -/
theorem ps_tryZ {X : Cx} {x n : Str} {c : Value} {i : Nat} {body suite : List Stmt} {b₀ : Stmt} {np pos pos' : Pos} {tb : (W : L2.WX) → TryZ X W → TS} {ts : Addr → Value → Option Addr → TS} {Wout : L2.WX}
    (hs : X.stack = X.env :: X.outer) (hf : X.env.frame = some X.env.locals) (hN : X.N.Nodup) (hi : X.N[i]? = some n) (hln : X.env.kindOf n = some .local) (hc : Names X x c) (tk : L2N.Takes X Wout)
    (hb : ∀ (W : L2.WX) (z : TryZ X W), PSs (X.tr z.pn z.xe) body (tb W z))
    (hsu : ∀ (a : Addr) (oe : Obj) (cls : Value) (d : Option Addr) (pn : List (Addr × Obj)), L2N.Zn cls d oe → (∃ vs, oe.data = .fields vs) → PSs (X.suite a ((a, oe) :: pn)) (b₀ :: suite) (ts a cls d)) :
    PS X (.Try body [.ExceptHandler (some (.Name x np)) (some n) (b₀ :: suite) pos'] [] [] pos) (fun D σ H => ∀ z : TryZ X (wAs X.K c i ts Wout D), tb _ z D σ H) :=
  L2N.ps_try_as (tb := fun W D σ H => ∀ z : TryZ X W, tb W z D σ H) hs hf hN hi hln hc tk (fun W pn xe tk hp => ⟨fun pins s σ H D I h => (hb W ⟨pn, xe, tk, hp⟩).run pins s σ H D I (h _)⟩) hsu
end L3
namespace L3
open PySem PySem.Spec PyProof.Rows L2 He
/-- a callee's error: its class, its one field -/
def Bad (K : PySem.W.Frag) (E : XK) (H : Hp) (C what : Str) : Prop := ∀ d H', H d = none → Ext H H' → H' d = some (.xd [("what", .str what)]) → E (.ref (ga K C)) (some d) H'
theorem r_flt1 {K : PySem.W.Frag} {l : List (Str × List Str)} {x f : Str} {a dd : Addr} {v : V} {H : Hp} {Q : VK} {E : XK} (hx : (x, [f]) ∈ l) (hd : H dd = some (.xd [(f, v)])) (k : ∀ q H', H q = none → Ext H H' → H' q = some (.tup [.str x, v]) → Q (.ref q) H') :
    spFlts K l a (.ref (ga K x)) (some dd) [.ref a] H Q E := ⟨(x, [f]), hx, dd, _, [v], rfl, ⟨rfl, rfl⟩, hd, by simp [List.lookup], k⟩
/-- told in the suite -/
theorem bad_tell {K : PySem.W.Frag} {c : Value} {l : List (Str × List Str)} {i : Nat} {Wout : L2.WX} {D : Ends} {σ : L2.St} {H1 : Hp} {C what : Str} (e : PySem.W.exmOne K (.ref (ga K C)) c = some true) (hl : (C, (["what"] : List Str)) ∈ l) (hi : i < σ.length)
    (k : ∀ q H', Ext H1 H' → H' q = some (.tup [.str C, .str what]) → D.rt (.ref q) H') : Bad K (WE (wAs K c i (fun a cls d => tRet (tCallS (spFlts K l a cls d) (WE fun _ _ _ _ => False) (tCons (tVar i) tNil))) Wout D) σ) H1 C what := by
  intro d H' hd e1 h
  refine r_wAs e fun a ha => ?_
  exact ⟨.ref a, by simp [hi], r_flt1 hl h fun q H2 hq e2 h2 => k q H2 (e1.trans e2) h2⟩
end L3
namespace L3
open PySem PySem.Spec PyProof.Rows L2 He
theorem r_chain {r r' : R2} {ta tb tc : TE} {σ : L2.St} {H : Hp} {Q : VK} (k : ta σ H fun x H1 => tb σ H1 fun y H2 => r x y H2 fun z H3 => ∃ k, z = .bl k ∧ (if k = true then tc σ H3 fun w' H4 => r' y w' H4 Q else Q (.bl false) H3)) : tChain r r' ta tb tc σ H Q := k
/-- the script, apart from what changes -/
def Sc (K : PySem.W.Frag) (S : List Addr) (a : Addr) (xs : List V) (H : Hp) : Prop := SqL K H a xs ∧ ((∀ H', SqL K H' a xs) ∨ (a ∉ S ∧ H a ≠ none))
theorem Sc.start {K : PySem.W.Frag} {S : List Addr} {a : Addr} {xs : List V} {H : Hp} (h : SqL K H a xs) (hS : ∀ q ∈ S, H q = none) : Sc K S a xs H := by
  rcases h with (h | ⟨o, h⟩) | h
  · exact ⟨.inl (.inl h), .inr ⟨fun z => (by rw [hS a z] at h; cases h), (by rw [h]; exact fun z => nomatch z)⟩⟩
  · exact ⟨.inl (.inr ⟨o, h⟩), .inr ⟨fun z => (by rw [hS a z] at h; cases h), (by rw [h]; exact fun z => nomatch z)⟩⟩
  · exact ⟨.inr h, .inl fun _ => .inr h⟩
theorem Sc.ext {K : PySem.W.Frag} {S : List Addr} {a : Addr} {xs : List V} {H H' : Hp} (s : Sc K S a xs H) (e : Ext H H') : Sc K S a xs H' :=
  ⟨e.l s.1, s.2.imp id fun ⟨h1, h2⟩ => ⟨h1, by
    cases q : H a with
    | none => exact absurd q h2
    | some o => rw [e _ _ q]; exact fun z => nomatch z⟩⟩
theorem Sc.but {K : PySem.W.Frag} {S : List Addr} {a p : Addr} {xs : List V} {H H' : Hp} (s : Sc K S a xs H) (hp : p ∈ S) (b : But p H H') : Sc K S a xs H' := by
  rcases s.2 with h | ⟨h1, h2⟩
  · exact ⟨h _, .inl h⟩
  · have ne : a ≠ p := fun e => h1 (e ▸ hp)
    refine ⟨b.l ne s.1, .inr ⟨h1, ?_⟩⟩
    cases q : H a with
    | none => exact absurd q h2
    | some o => rw [b _ _ ne q]; exact fun z => nomatch z
theorem Sc.more {K : PySem.W.Frag} {S S' : List Addr} {a : Addr} {xs : List V} {H : Hp} (s : Sc K S a xs H) (hS : ∀ q ∈ S', q ∈ S ∨ H q = none) : Sc K S' a xs H :=
  ⟨s.1, s.2.imp id fun ⟨h1, h2⟩ => ⟨fun z => (hS a z).elim h1 h2, h2⟩⟩
theorem src_some {H : Hp} {p : Addr} (a : Src H p) : H p ≠ none := by
  obtain ⟨x, y, z, h⟩ := a
  rw [h]
  exact fun z => nomatch z
theorem Src.stay {H H' : Hp} {p q : Addr} (s : Src H p) (b : But q H H') (h : p ≠ q) : Src H' p := by
  obtain ⟨x, y, z, e⟩ := s
  exact ⟨x, y, z, b _ _ h e⟩
end L3
set_option maxRecDepth 100000
set_option maxHeartbeats 4000000
/-! CmJ: list(range(..)), forwards and down; reversed lists; the greatest of a list. -/
namespace L3
open PySem PySem.Spec PyProof.Rows L2 He
/-- the ints i, i - 1, .., above j -/
def dnV (i j : Int) : List V := (List.range (i - j).toNat).map fun k => V.int (i + (k : Nat) * -1)
def LstDn (vs : List V) (H1 : Hp) (Q : VK) : Prop := ∃ i j : Int, vs = [.int i, .int j, .int (-1)] ∧ RgOk j i ∧ ∀ q, H1 q = none → Q (.ref q) (upd H1 q (.lst (dnV i j)))
def tLstDn (ta : TA) : TE := fun σ H Q => ta σ H fun vs H1 => LstDn vs H1 Q
theorem pe_listDn {X : Cx} {a b c : Expr} {ta : TA} {p p2 pos pos2 : Pos} (hc : X.calm = true) (hml : X.mg "list" = none) (hm : X.mg "range" = none) (ha : PA X [a, b, c] ta) (hgl : Gl X "list" := by rfl) (hg : Gl X "range" := by rfl)
    (hs : starEach [a, b, c] X.env = (false, eval a X.env) :: starEach [b, c] X.env := by rfl) (hpl : (backTo pos2 (starEach [b, c] X.env)).any (·.1) = false := by rfl)
    (na : starEach [.Call (.Name "range" p2) [a, b, c] [] pos2] X.env = (false, eval (.Call (.Name "range" p2) [a, b, c] [] pos2) X.env) :: starEach [] X.env := by rfl) :
    PE X (.Call (.Name "list" p) [.Call (.Name "range" p2) [a, b, c] [] pos2] [] pos) (tLstDn ta) := by
  refine ⟨fun pins s σ H Q I h => ?_⟩
  refine Call_ (ld_blt I hgl hml boot_list (PyProof.Rows.callWith_type1 (args_cons (thn (Q := fun x s1 => ∃ r i j t u v H1, x = Value.ref r ∧ IsRange s1.heap r i j (-1) t u v ∧ Inv X pins σ H1 s1 ∧ RgOk j i ∧ ∀ q, H1 q = none → Q (.ref q) (upd H1 q (.lst (dnV i j)))) ?_ fun x s1 ⟨r, i, j, t, u, v, H1, ex, hr, I1, ok, q⟩ => args_nil ?_) na) na))
  · refine Call_ (ld_blt I hg hm boot_range (PyProof.Rows.callWith_type1 (thn (ha.run pos2 pins s σ H _ I h) fun us s1 ⟨vs, H1, I1, r1, q1⟩ => ?_) hs hpl))
    obtain ⟨i, j, e, ok, q⟩ := q1
    subst e
    cases r1 with
    | cons r rr =>
      cases rr with
      | cons r' rr =>
        cases rr with
        | cons r'' rr =>
          cases rr
          obtain ⟨t, rfl⟩ := r
          obtain ⟨t', rfl⟩ := r'
          obtain ⟨t'', rfl⟩ := r''
          exact call_range_3 (by decide) ⟨_, i, j, _, _, _, H1, rfl, IsRange.new _ _ _ _ _ _ _, I1.kept fun b u e => Heap.get?_push_of_some _ e, ok, q⟩ (.inl (PyProof.noPylong_small (by decide)))
  · subst ex
    obtain ⟨b1, b2, b3, b4, b5⟩ := ok
    refine call_list_range (n := (i - j).toNat) (I1.ok.hd hc) hr (PySem.W.small_down b3 b4 b1 b2) (PySem.W.rangeSize_downNat i j) b5 fun h' tk acc c' hk e' hi => ?_
    refine ⟨.ref s1.heap.objs.size, upd H1 s1.heap.objs.size (.lst (dnV i j)), I1.laid hk (Nat.le_refl _) (show ObjOk X.prog X.w _ _ _ (.lst (dnV i j)) from ⟨?_, acc.toList, c', ?_, ?_⟩), rfl, q _ (I1.hok.fresh (Nat.le_refl _))⟩
    · unfold dnV; rw [List.length_map, List.length_range, sizeLine_eq]; omega
    · have e : acc.toList.length = (i - j).toNat := by rw [Array.length_toList]; exact hi.1
      unfold dnV
      rw [← e]
      refine vals_of_get acc.toList _ fun k u hj => ?_
      obtain ⟨t, rfl⟩ := hi.2 k u (by rw [← hj, Array.getElem?_toList])
      exact ⟨t, rfl⟩
    · rw [Array.toArray_toList]; exact e'
section
variable {K : PySem.W.Frag} {σ : L2.St} {H : Hp} {Q : VK}
theorem r_listDn {ta : TA} (k : ta σ H fun vs H1 => LstDn vs H1 Q) : tLstDn ta σ H Q := k
theorem r_dn {i j : Int} (h : RgOk j i) (k : ∀ q H', H q = none → Ext H H' → H' q = some (.lst (dnV i j)) → Q (.ref q) H') : LstDn [V.int i, V.int j, V.int (-1)] H Q := ⟨i, j, rfl, h, fun q hq => k q _ hq (Ext.new hq) upd_same⟩
def LstRg (x y : V) (H1 : Hp) (Q : VK) : Prop := ∃ i j : Int, x = .int i ∧ y = .int j ∧ RgOk i j ∧ ∀ q, H1 q = none → Q (.ref q) (upd H1 q (.lst (rgV i j)))
theorem r_listRg2 {ta tb : TE} (k : ta σ H fun x H1 => tb σ H1 fun y H2 => LstRg x y H2 Q) : tLstRg (tRg2 ta tb) σ H Q := by
  unfold tLstRg tRg2
  unfold LstRg at k
  have e : (fun (x : V) (H1 : Hp) => tb σ H1 fun y H2 => ∃ i j : Int, x = .int i ∧ y = .int j ∧ RgOk i j ∧ ∀ q, H2 q = none → Q (.ref q) (upd H2 q (.lst (rgV i j)))) = fun (x : V) (H1 : Hp) => tb σ H1 fun y H2 => ∃ i j : Int, x = .int i ∧ y = .int j ∧ (RgOk i j ∧ ∀ q, H2 q = none → Q (.ref q) (upd H2 q (.lst (rgV i j)))) := rfl
  exact k
theorem r_rg {i j : Int} (h : RgOk i j) (k : ∀ q H', H q = none → Ext H H' → H' q = some (.lst (rgV i j)) → Q (.ref q) H') : LstRg (V.int i) (V.int j) H Q := ⟨i, j, rfl, rfl, h, fun q hq => k q _ hq (Ext.new hq) upd_same⟩
def RevL (K : PySem.W.Frag) (x : V) (H1 : Hp) (Q : VK) : Prop := ∃ a xs, x = .ref a ∧ SqL K H1 a xs ∧ ∀ p, H1 p = none → Q (.ref p) (upd H1 p (.lst xs.reverse))
theorem r_revL {te : TE} (k : te σ H fun x H1 => RevL K x H1 Q) : tRevL K te σ H Q := k
theorem r_rev {a : Addr} {xs : List V} (h : SqL K H a xs) (k : ∀ q H', H q = none → Ext H H' → H' q = some (.lst xs.reverse) → Q (.ref q) H') : RevL K (.ref a) H Q := ⟨a, xs, rfl, h, fun q hq => k q _ hq (Ext.new hq) upd_same⟩
theorem revK {X : Cx} {e : Expr} {te : TE} {k : Nat} {p1 p2 p3 pos : Pos} (he : PE X e te) (hK : X.K = K := by rfl) : PE X (.Subscript e (.Slice none none (some (.UnaryOp .USub (.Constant (.int 1) k p1) p2)) p3) pos) (tRevL K te) := hK ▸ pe_revL he
theorem r_maxL {p : Addr} {ns : List Int} {m : Int} (h : SqL K H p (ns.map V.int)) (hm : m ∈ ns) (hl : ∀ y ∈ ns, y ≤ m) (k : Q (.int m) H) : rMax K [.ref p] H Q :=
  ⟨p, ns, rfl, h, List.length_pos_of_mem hm, fun m' h1 h2 => by
    have : m' = m := Int.le_antisymm (hl _ h1) (h2 _ hm)
    rw [this]; exact k⟩
theorem r_minL {p : Addr} {ns : List Int} {m : Int} (h : SqL K H p (ns.map V.int)) (hm : m ∈ ns) (hl : ∀ y ∈ ns, m ≤ y) (k : Q (.int m) H) : rMin K [.ref p] H Q :=
  ⟨p, ns, rfl, h, List.length_pos_of_mem hm, fun m' h1 h2 => by
    have : m' = m := Int.le_antisymm (h2 _ hm) (hl _ h1)
    rw [this]; exact k⟩
theorem r_popW {l : Addr} {xs : List V} {y : V} (h : H l = some (.lst (xs ++ [y]))) (k : ∀ H', H' l = some (.lst xs) → (∀ b, b ≠ l → H' b = H b) → Q y H') : rPop (.ref l) [] H Q := r_popL h k
end
end L3
set_option maxRecDepth 100000
set_option maxHeartbeats 4000000
/-! CmK: len(set(xs)) of any ints. -/
namespace L3
open PySem PySem.Spec PyProof.Rows L2 He
/-- the ints of a list, each once, in the order they are met -/
def once (ns : List Int) : List Int := PyProof.Rows.firstMet (fun i => ns.getD i 0) ns.length
theorem met_nodup (f : Nat → Int) : ∀ n, (PyProof.Rows.firstMet f n).Nodup ∧ (∀ x, x ∈ PyProof.Rows.firstMet f n ↔ ∃ i, i < n ∧ f i = x) ∧ (PyProof.Rows.firstMet f n).length ≤ n
  | 0 => ⟨.nil, fun x => ⟨fun h => absurd h (List.not_mem_nil), fun ⟨i, h, _⟩ => absurd h (Nat.not_lt_zero _)⟩, Nat.le_refl _⟩
  | n + 1 => by
    obtain ⟨h1, h2, h3⟩ := met_nodup f n
    have es : ∀ (l : List Int) (x : Int), PyProof.Rows.step_dedup l x = if l.any (· == x) = true then l else l ++ [x] := fun _ _ => rfl
    rw [PyProof.Rows.firstMet_succ, es]
    cases hb : (PyProof.Rows.firstMet f n).any (· == f n) with
    | true =>
      rw [if_pos rfl]
      obtain ⟨y, hy, ey⟩ := List.any_eq_true.mp hb
      have ey : y = f n := eq_of_beq ey
      obtain ⟨j, hj, ej⟩ := (h2 y).mp hy
      refine ⟨h1, fun x => ⟨fun h => ?_, fun ⟨i, hi, e⟩ => ?_⟩, by omega⟩
      · obtain ⟨i, hi, e⟩ := (h2 x).mp h
        exact ⟨i, by omega, e⟩
      · by_cases c : i = n
        · rw [← e, c, ← ey]; exact hy
        · exact (h2 x).mpr ⟨i, by omega, e⟩
    | false =>
      rw [if_neg Bool.false_ne_true]
      have no : f n ∉ PyProof.Rows.firstMet f n := fun h => by
        have := List.any_eq_false.mp hb _ h
        simp at this
      refine ⟨?_, fun x => ?_, by rw [List.length_append]; show _ + 1 ≤ _; omega⟩
      · rw [List.nodup_append]
        refine ⟨h1, by simp, fun a ha b hb' e => ?_⟩
        rw [List.mem_singleton.mp hb'] at e
        exact no (e ▸ ha)
      · rw [List.mem_append, h2, List.mem_singleton]
        refine ⟨fun h => ?_, fun ⟨i, hi, e⟩ => ?_⟩
        · rcases h with ⟨i, hi, e⟩ | e
          · exact ⟨i, by omega, e⟩
          · exact ⟨n, by omega, e.symm⟩
        · by_cases c : i = n
          · exact .inr (by rw [← e, c])
          · exact .inl ⟨i, by omega, e⟩
theorem once_nodup (ns : List Int) : (once ns).Nodup := (met_nodup _ _).1
theorem once_mem {ns : List Int} {x : Int} : x ∈ once ns ↔ x ∈ ns := by
  rw [once, (met_nodup _ _).2.1]
  refine ⟨fun ⟨i, hi, e⟩ => ?_, fun h => ?_⟩
  · rw [List.getD_eq_getElem?_getD, List.getElem?_eq_getElem hi] at e
    exact e ▸ List.getElem_mem hi
  · obtain ⟨i, hi⟩ := List.mem_iff_getElem?.mp h
    refine ⟨i, (List.getElem?_eq_some_iff.mp hi).1, ?_⟩
    rw [List.getD_eq_getElem?_getD, hi]
    rfl
theorem once_le (ns : List Int) : (once ns).length ≤ ns.length := (met_nodup _ _).2.2
def LenSetS (K : PySem.W.Frag) (x : V) (H1 : Hp) (Q : VK) : Prop := ∃ (l : Addr) (ns : List Int), x = .ref l ∧ SqL K H1 l (ns.map V.int) ∧ ns.length ≤ 4000 ∧ Q (.int ((once ns).length : Nat)) H1
def tLenSetN (K : PySem.W.Frag) (ta : TE) : TE := fun σ H Q => ta σ H fun x H1 => LenSetS K x H1 Q
theorem pe_lenSetN {X : Cx} {K : PySem.W.Frag} {a : Expr} {ta : TE} {p p2 q pos : Pos} (hm : X.mg "len" = none) (hm2 : X.mg "set" = none) (ha : PE X a ta) (hc : X.calm = true := by rfl) (hg : Gl X "len" := by rfl) (hg2 : Gl X "set" := by rfl)
    (na : starEach [a] X.env = (false, eval a X.env) :: starEach [] X.env := by rfl) (hK : X.K = K := by rfl) : PE X (.Call (.Name "len" p) [.Call (.Name "set" p2) [a] [] q] [] pos) (tLenSetN K ta) := by
  subst hK
  refine ⟨fun pins s σ H Q I h => ?_⟩
  refine Call_ (ld_blt I hg hm boot_len ?_)
  refine PyProof.Rows.callWith_builtin1 (PyProof.Rows.args_cons ?_ rfl) rfl rfl
  refine Call_ (ld_blt I hg2 hm2 boot_set ?_)
  refine PyProof.Rows.callWith_type1 (PyProof.Rows.args_cons (thn (ha.run pins s σ H _ I h) fun v s1 ⟨x, H1, I1, r1, q1⟩ => PyProof.Rows.args_nil ?_) na) na rfl
  obtain ⟨l, ns, rfl, hq, hl, q1⟩ := q1
  cases r1
  obtain ⟨its, r, pl, hz⟩ := I1.list hq
  have hlen : its.toArray.size = ns.length := by rw [List.size_toArray, ← r.length, List.length_map]
  refine call_set_list (I1.ok.hd hc) pl.isList (by simpa using RZ.intsAre_vals r) (by rw [hlen]; unfold scanBound; omega) fun h' tk hS hk => ?_
  refine PyProof.Rows.args_nil ?_
  rw [hlen] at hS
  have hle := once_le ns
  obtain ⟨o, es, ep, t, ho, hex, hd, _, _, _, hf, hn⟩ := hS
  have I2 : Inv X pins σ H1 { s1 with heap := h', toks := tk } := I1.kept fun b o e => hk b o (Heap.lt_size e) e
  have hn' : es.size = (once ns).length := by rw [hn]; rfl
  exact call_len_set ho hex hd hf (by rw [hn'] <;> omega) ⟨.int ((once ns).length : Nat), H1, I2.tok _, ⟨_, by rw [hn']⟩, q1⟩
section
variable {K : PySem.W.Frag} {σ : L2.St} {H : Hp} {Q : VK}
theorem r_lenSet {te : TE} (k : te σ H fun x H1 => LenSetS K x H1 Q) : tLenSetN K te σ H Q := k
theorem r_lenSetL {l : Addr} {ns : List Int} (h : SqL K H l (ns.map V.int)) (hl : ns.length ≤ 4000) (k : Q (.int ((once ns).length : Nat)) H) : LenSetS K (.ref l) H Q := ⟨l, ns, rfl, h, hl, k⟩
end
/-- fewer once than at all: some twice -/
theorem once_lt {ns : List Int} : (once ns).length < ns.length ↔ ¬ ns.Nodup := by
  have key : ∀ (l : List Int), l.Nodup → ∀ m : List Int, (∀ x ∈ l, x ∈ m) → l.length ≤ m.length := by
    intro l
    induction l with
    | nil => intro _ m _; exact Nat.zero_le _
    | cons a l ih =>
      intro h m hm
      rw [List.nodup_cons] at h
      have ha := hm a List.mem_cons_self
      have := ih h.2 (m.erase a) (fun x hx => (List.mem_erase_of_ne (fun e => h.1 (by rw [← e]; exact hx))).mpr (hm x (List.mem_cons_of_mem _ hx)))
      rw [List.length_erase_of_mem ha] at this
      have := List.length_pos_of_mem ha
      show l.length + 1 ≤ m.length
      omega
  constructor
  · intro h hn
    have := key ns hn (once ns) fun x hx => once_mem.mpr hx
    omega
  · intro h
    refine Nat.lt_of_not_le fun hle => h ?_
    -- the list has as many as its once: no two alike
    have drop : ∀ (l : List Int), ¬ l.Nodup → ∃ m : List Int, m.length < l.length ∧ ∀ x ∈ l, x ∈ m := by
      intro l
      induction l with
      | nil => intro h; exact absurd .nil h
      | cons a l ih =>
        intro h
        by_cases c : a ∈ l
        · exact ⟨l, by simp, fun x hx => by
            rcases List.mem_cons.mp hx with rfl | hx
            · exact c
            · exact hx⟩
        · obtain ⟨m, h1, h2⟩ := ih (fun hl => h (List.nodup_cons.mpr ⟨c, hl⟩))
          exact ⟨a :: m, by simp; omega, fun x hx => by
            rcases List.mem_cons.mp hx with rfl | hx
            · exact List.mem_cons_self
            · exact List.mem_cons_of_mem _ (h2 x hx)⟩
    refine Classical.byContradiction fun hn => ?_
    obtain ⟨m, h1, h2⟩ := drop ns hn
    have := key (once ns) (once_nodup ns) m fun x hx => h2 x (once_mem.mp hx)
    omega
end L3
namespace L3
open PySem PySem.Spec PyProof.Rows L2 He
/-! ### for over a list or a tuple, whichever it is -/
def iSeq (K : PySem.W.Frag) (tl : TE) : TI := fun σ H R => iList K tl σ H R ∨ iTup K tl σ H R
theorem piS {X : Cx} {K : PySem.W.Frag} {tg l : Expr} {tl : TE} (hl : PE X l tl) (hK : X.K = K := by rfl) : PI X tg l (iSeq K tl) := by
  subst hK
  exact ⟨fun pins s σ H R I h => h.elim (fun h => (pi_list hl).run pins s σ H R I h) fun h => (pi_tup hl).run pins s σ H R I h⟩
section
variable {K : PySem.W.Frag} {σ : L2.St} {H : Hp}
/-- the turns over a list or a tuple -/
def SeqJ (K : PySem.W.Frag) (H : Hp) (a : Addr) (xs : List V) (J : It) : Prop := (J = Itl K a ∧ SqL K H a xs) ∨ (J = Itt K a ∧ SqT K H a xs)
theorem r_iSv {R : It → Hp → Prop} {i : Nat} {a : Addr} {xs : List V} (h : Seq K H a xs) (e : σ[i]? = some (some (.ref a))) (k : ∀ J, SeqJ K H a xs J → R J H) : iSeq K (tVar i) σ H R :=
  h.elim (fun h => .inl ⟨.ref a, e, a, rfl, ⟨xs, h⟩, k _ (.inl ⟨rfl, h⟩)⟩) fun h => .inr ⟨.ref a, e, a, rfl, ⟨xs, h⟩, k _ (.inr ⟨rfl, h⟩)⟩
theorem forW_seq {g : TG} {tb : TS} {nx bk ct : L2.St → Hp → Prop} {rt : VK} {J : It} {a : Addr} {xs : List V} {H0 : Hp} (hJ : SeqJ K H0 a xs J) (Pv : Nat → L2.St → Hp → Prop) (h0 : Pv 0 σ H) (he : ∀ i σ H', Pv i σ H' → Ext H0 H')
    (hs : ∀ i x σ H, xs[i]? = some x → Pv i σ H → g x σ H fun σ2 H2 => tb ⟨Pv (i + 1), rt, nx, Pv (i + 1)⟩ σ2 H2) (hd : ∀ σ H, Pv xs.length σ H → nx σ H) : ForW J g tb ⟨nx, rt, bk, ct⟩ σ H := by
  rcases hJ with ⟨rfl, h⟩ | ⟨rfl, h⟩
  · exact forW_list Pv h0 (fun i σ H' _ p => (he i σ H' p).l h) hs hd
  · exact forW_tup Pv h0 (fun i σ H' _ p => (he i σ H' p).tu h) hs hd
end
end L3
set_option maxRecDepth 100000
set_option maxHeartbeats 4000000
/-! CmL: data that lies in lists and tuples of the heap, at places of which S holds. -/
namespace L3
open PySem PySem.Spec PyProof.Rows L2 He
mutual
inductive Nw (S : Addr → Prop) (H : Hp) : V → PyData → Prop
  | non : Nw S H .non .none
  | bl (b : Bool) : Nw S H (.bl b) (.bool b)
  | int (i : Int) : Nw S H (.int i) (.int i)
  | str (s : Str) : Nw S H (.str s) (.str s)
  | lst {a : Addr} {xs : List V} {ds : List PyData} : S a → H a = some (.lst xs) → Nws S H xs ds → Nw S H (.ref a) (.list ds)
  | tup {a : Addr} {xs : List V} {ds : List PyData} : S a → H a = some (.tup xs) → Nws S H xs ds → Nw S H (.ref a) (.tuple ds)
inductive Nws (S : Addr → Prop) (H : Hp) : List V → List PyData → Prop
  | nil : Nws S H [] []
  | cons {x : V} {d : PyData} {xs : List V} {ds : List PyData} : Nw S H x d → Nws S H xs ds → Nws S H (x :: xs) (d :: ds)
end
section
variable {S S' : Addr → Prop} {H H' : Hp} {K : PySem.W.Frag}
mutual
theorem Nw.keep (h : ∀ a o, S a → H a = some o → H' a = some o ∧ S' a) : ∀ (d : PyData) {x : V}, Nw S H x d → Nw S' H' x d
  | .none, _, .non => .non
  | .bool b, _, .bl _ => .bl b
  | .int i, _, .int _ => .int i
  | .str s, _, .str _ => .str s
  | .list ds, _, .lst s e hs => .lst (h _ _ s e).2 (h _ _ s e).1 (Nws.keep h ds hs)
  | .tuple ds, _, .tup s e hs => .tup (h _ _ s e).2 (h _ _ s e).1 (Nws.keep h ds hs)
theorem Nws.keep (h : ∀ a o, S a → H a = some o → H' a = some o ∧ S' a) : ∀ (ds : List PyData) {xs : List V}, Nws S H xs ds → Nws S' H' xs ds
  | [], _, .nil => .nil
  | d :: ds, _, .cons e es => .cons (Nw.keep h d e) (Nws.keep h ds es)
end
mutual
theorem Nw.dp : ∀ (d : PyData) {x : V}, Nw S H x d → Dp K H x d
  | .none, _, .non => .non
  | .bool b, _, .bl _ => .bl b
  | .int i, _, .int _ => .int i
  | .str s, _, .str _ => .str s
  | .list ds, _, .lst _ e hs => .lst (sqL e) (Nws.dp ds hs)
  | .tuple ds, _, .tup _ e hs => .tup (sqT e) (Nws.dp ds hs)
theorem Nws.dp : ∀ (ds : List PyData) {xs : List V}, Nws S H xs ds → DpAll K H xs ds
  | [], _, .nil => .nil
  | d :: ds, _, .cons e es => .cons (Nw.dp d e) (Nws.dp ds es)
end
theorem Nws.len : ∀ {xs : List V} {ds : List PyData}, Nws S H xs ds → xs.length = ds.length
  | _, _, .nil => rfl
  | _, _, .cons _ h => by rw [List.length_cons, List.length_cons, Nws.len h]
theorem Nws.get : ∀ {xs : List V} {ds : List PyData} {i : Nat} {d : PyData}, Nws S H xs ds → ds[i]? = some d → ∃ x, xs[i]? = some x ∧ Nw S H x d
  | _, _, i, d, .nil, e => by simp at e
  | _, _, 0, d, .cons h _, e => by simp at e; subst e; exact ⟨_, rfl, h⟩
  | _, _, i + 1, d, .cons _ h, e => by
    obtain ⟨x, e1, h1⟩ := Nws.get (i := i) h (by simpa using e)
    exact ⟨x, by simpa using e1, h1⟩
theorem Nws.of : ∀ {xs : List V} {ds : List PyData}, xs.length = ds.length → (∀ (i : Nat) (x : V) (d : PyData), xs[i]? = some x → ds[i]? = some d → Nw S H x d) → Nws S H xs ds
  | [], [], _, _ => .nil
  | x :: xs, d :: ds, hl, h => .cons (h 0 x d rfl rfl) (Nws.of (by simpa using hl) fun i y e hy he => h (i + 1) y e (by simpa using hy) (by simpa using he))
theorem Nws.append : ∀ {xs ys : List V} {ds es : List PyData}, Nws S H xs ds → Nws S H ys es → Nws S H (xs ++ ys) (ds ++ es)
  | _, _, _, _, .nil, h => h
  | _, _, _, _, .cons h t, g => .cons h (Nws.append t g)
theorem nws_ints : ∀ (ns : List Int), Nws S H (ns.map V.int) (ns.map PyData.int)
  | [] => .nil
  | n :: ns => .cons (.int n) (nws_ints ns)
theorem nws_ints' {xs : List V} : ∀ {row : List Int}, Nws S H xs (row.map PyData.int) → xs = row.map V.int := by
  intro row
  induction row generalizing xs with
  | nil => intro h; cases h; rfl
  | cons a row ih =>
    intro h
    cases h with
    | cons h1 h2 =>
      cases h1
      rw [ih h2]
      rfl
/-- a list of lists of ints -/
def tbD (st : List (List Int)) : PyData := .list (st.map fun row => .list (row.map PyData.int))
structure Grid (S : Addr → Prop) (H : Hp) (t : Addr) (as : List Addr) (st : List (List Int)) : Prop where
  top : S t
  at_ : H t = some (.lst (as.map V.ref))
  len : as.length = st.length
  row : ∀ (i : Nat) (row : List Int), st[i]? = some row → ∃ a, as[i]? = some a ∧ S a ∧ H a = some (.lst (row.map V.int))
theorem Nw.grid {x : V} {st : List (List Int)} (h : Nw S H x (tbD st)) : ∃ t as, x = .ref t ∧ Grid S H t as st := by
  cases h with
  | lst s e hs =>
    rename_i t xs
    have hl := hs.len
    rw [List.length_map] at hl
    have key : ∀ (i : Nat) (row : List Int), st[i]? = some row → ∃ a, xs[i]? = some (V.ref a) ∧ S a ∧ H a = some (.lst (row.map V.int)) := fun i row hr => by
      obtain ⟨x, e1, h1⟩ := hs.get (i := i) (d := .list (row.map PyData.int)) (by rw [List.getElem?_map, hr]; rfl)
      cases h1 with
      | lst s1 e2 hs1 => exact ⟨_, e1, s1, by rw [← nws_ints' hs1]; exact e2⟩
    obtain ⟨as, ea⟩ : ∃ as : List Addr, xs = as.map V.ref := by
      refine ⟨xs.map fun x => match x with | .ref a => a | _ => t, ?_⟩
      apply List.ext_getElem?
      intro i
      rw [List.getElem?_map, List.getElem?_map]
      by_cases c : i < xs.length
      · obtain ⟨a, e1, _⟩ := key i _ (List.getElem?_eq_getElem (by omega))
        rw [e1]
        rfl
      · rw [List.getElem?_eq_none (by omega)]
        rfl
    subst ea
    rw [List.length_map] at hl
    refine ⟨t, as, rfl, s, e, hl, fun i row hr => ?_⟩
    obtain ⟨a, e1, h1⟩ := key i row hr
    rw [List.getElem?_map] at e1
    obtain ⟨b, eb, e2⟩ := Option.map_eq_some_iff.mp e1
    cases e2
    exact ⟨_, eb, h1⟩
theorem Grid.nw {t : Addr} {as : List Addr} {st : List (List Int)} (g : Grid S H t as st) : Nw S H (.ref t) (tbD st) := by
  refine .lst g.top g.at_ (.of (by rw [List.length_map, List.length_map, g.len]) fun i x d hx hd => ?_)
  rw [List.getElem?_map] at hx hd
  obtain ⟨a, ha, rfl⟩ := Option.map_eq_some_iff.mp hx
  obtain ⟨row, hr, rfl⟩ := Option.map_eq_some_iff.mp hd
  obtain ⟨b, hb, s, e⟩ := g.row i row hr
  rw [ha] at hb
  cases hb
  exact .lst s e (nws_ints row)
theorem nw_but {p : Addr} {x : V} {d : PyData} (h : Nw (· ≠ p) H x d) (b : But p H H') : Nw (· ≠ p) H' x d := h.keep (fun a o s e => ⟨b a o s e, s⟩) d
theorem nw_ext {x : V} {d : PyData} (h : Nw S H x d) (e : Ext H H') : Nw S H' x d := h.keep (fun a o s q => ⟨e a o q, s⟩) d
/-- the one object of a new tree changes: another tree stays -/
theorem nw_stay {q : Addr} {x : V} {d : PyData} (h : Nw S H x d) (hq : ∀ a, S a → a ≠ q) (n : ∀ b, b ≠ q → H' b = H b) : Nw S H' x d := h.keep (fun a o s e => ⟨(n a (hq a s)).trans e, s⟩) d
theorem small_tb {n : Nat} {st : List (List Int)} (h1 : st.length ≤ 100000) (h2 : ∀ row ∈ st, row.length ≤ 100000) : smallD (n + 3) (tbD st) :=
  small_list (by rw [List.length_map]; exact h1) fun e he => by
    obtain ⟨row, hr, rfl⟩ := List.mem_map.mp he
    exact small_ints n (h2 row hr)
end
end L3
namespace L3
open PySem PySem.Spec PyProof.Rows L2 He
theorem Grid.setTop {S : Addr → Prop} {H H' : Hp} {t a : Addr} {as : List Addr} {st : List (List Int)} {r : Nat} {row : List Int} (g : Grid S H t as st) (hr : r < st.length) (keep : ∀ b o, S b → b ≠ t → H b = some o → H' b = some o) (ht : H' t = some (.lst ((as.map V.ref).set r (.ref a)))) (ha : S a) (h : H' a = some (.lst (row.map V.int))) : Grid S H' t (as.set r a) (st.set r row) := by
  refine ⟨g.top, by rw [ht, List.map_set], by rw [List.length_set, List.length_set, g.len], fun i r' hi => ?_⟩
  by_cases c : r = i
  · subst c
    rw [List.getElem?_set_self hr] at hi
    cases hi
    exact ⟨a, List.getElem?_set_self (by rw [g.len]; exact hr), ha, h⟩
  · rw [List.getElem?_set_ne c] at hi
    obtain ⟨b, hb, sb, eb⟩ := g.row i r' hi
    refine ⟨b, by rw [List.getElem?_set_ne c]; exact hb, sb, keep b _ sb (fun e => ?_) eb⟩
    rw [e, g.at_] at eb
    have := (Option.some.inj eb)
    injection this with this
    cases as with
    | nil => simp at hb
    | cons x xs =>
      cases r' with
      | nil => simp at this
      | cons y ys => simp at this
theorem Grid.setRow {S : Addr → Prop} {H H' : Hp} {t a : Addr} {as : List Addr} {st : List (List Int)} {r : Nat} {row row' : List Int} (g : Grid S H t as st) (hr : st[r]? = some row) (ha : as[r]? = some a) (keep : ∀ b, b ≠ a → H' b = H b) (h : H' a = some (.lst (row'.map V.int))) :
    ∃ st', Grid S H' t as st' ∧ st'.length = st.length ∧ row' ∈ st' ∧ ∀ x ∈ st', x ∈ st ∨ x = row' := by
  have hlt := (List.getElem?_eq_some_iff.mp hr).1
  have at_i : ∀ i, i < st.length → ((List.range st.length).map fun i => if as[i]? = some a then row' else st.getD i [])[i]? = some (if as[i]? = some a then row' else st.getD i []) := fun i hi => by rw [List.getElem?_map, List.getElem?_range hi]; rfl
  have at_ne : t ≠ a := fun e => by
    obtain ⟨b, hb, sb, eb⟩ := g.row r row hr
    rw [ha] at hb
    cases hb
    rw [← e, g.at_] at eb
    have := (Option.some.inj eb)
    injection this with this
    cases as with
    | nil => simp at ha
    | cons x xs =>
      cases row with
      | nil => simp at this
      | cons y ys => simp at this
  refine ⟨(List.range st.length).map fun i => if as[i]? = some a then row' else st.getD i [], ⟨g.top, (keep t at_ne).trans g.at_, by rw [List.length_map, List.length_range, g.len], fun i x hi => ?_⟩, by rw [List.length_map, List.length_range], ?_, fun x hx => ?_⟩
  · have hil : i < st.length := by
      have := (List.getElem?_eq_some_iff.mp hi).1
      rwa [List.length_map, List.length_range] at this
    rw [at_i i hil] at hi
    cases hi
    obtain ⟨b, hb, sb, eb⟩ := g.row i _ (List.getElem?_eq_getElem hil)
    refine ⟨b, hb, sb, ?_⟩
    by_cases c : b = a
    · rw [if_pos (by rw [hb, c]), c]
      exact h
    · rw [if_neg (by rw [hb]; exact fun e => c (Option.some.inj e)), keep b c, eb, List.getD_eq_getElem?_getD, List.getElem?_eq_getElem hil]
      rfl
  · exact List.mem_map.mpr ⟨r, List.mem_range.mpr hlt, if_pos ha⟩
  · obtain ⟨i, hi, rfl⟩ := List.mem_map.mp hx
    rw [List.mem_range] at hi
    split
    · exact .inr rfl
    · left
      rw [List.getD_eq_getElem?_getD, List.getElem?_eq_getElem hi]
      exact List.getElem_mem hi
end L3
set_option maxRecDepth 100000
set_option maxHeartbeats 4000000
/-! CmM: dicts with ints as keys; lists of ints compared. -/
namespace L3
open PySem PySem.Spec PyProof.Rows L2 He
section
variable {K : PySem.W.Frag} {σ : L2.St} {H : Hp} {Q : VK} {td ty tv : TE} {nx bk ct : L2.St → Hp → Prop} {rt : VK}
def DG (x y : V) (H : Hp) (Q : VK) : Prop := ∃ a v, x = .ref a ∧ DGet H a y (some v) ∧ Q v H
theorem r_dgt (k : td σ H fun x H1 => ty σ H1 fun y H2 => DG x y H2 Q) : tDGet td ty σ H Q := k
theorem r_dgI {p : Addr} {kvs : List (Key × V)} {i : Int} {v : V} (h : H p = some (.dK kvs)) (e : valV kvs (.inl i) = some v) (k : Q v H) : DG (.ref p) (.int i) H Q := ⟨p, v, rfl, .inl ⟨kvs, .inl i, .inl h, rfl, e.symm⟩, k⟩
def DIn (y x : V) (H : Hp) (Q : VK) : Prop := ∃ a o, x = .ref a ∧ DGet H a y o ∧ Q (.bl o.isSome) H
def DNin (y x : V) (H : Hp) (Q : VK) : Prop := ∃ a o, x = .ref a ∧ DGet H a y o ∧ Q (.bl !o.isSome) H
theorem r_din (k : ty σ H fun y H1 => td σ H1 fun x H2 => DIn y x H2 Q) : tDIn ty td σ H Q := k
theorem r_dnin (k : ty σ H fun y H1 => td σ H1 fun x H2 => DNin y x H2 Q) : tDNotIn ty td σ H Q := k
theorem r_dinI {p : Addr} {kvs : List (Key × V)} {i : Int} (h : H p = some (.dK kvs)) (k : Q (.bl (valV kvs (.inl i)).isSome) H) : DIn (.int i) (.ref p) H Q := ⟨p, _, rfl, .inl ⟨kvs, .inl i, .inl h, rfl, rfl⟩, k⟩
theorem r_dninI {p : Addr} {kvs : List (Key × V)} {i : Int} (h : H p = some (.dK kvs)) (k : Q (.bl !(valV kvs (.inl i)).isSome) H) : DNin (.int i) (.ref p) H Q := ⟨p, _, rfl, .inl ⟨kvs, .inl i, .inl h, rfl, rfl⟩, k⟩
def DPt (v x y : V) (H : Hp) (P : Hp → Prop) : Prop := ∃ a H4, x = .ref a ∧ DPut H a y v H4 ∧ P H4
theorem r_dput (k : tv σ H fun v H1 => td σ H1 fun x H2 => ty σ H2 fun y H3 => DPt v x y H3 fun H4 => nx σ H4) : sDPut td ty tv ⟨nx, rt, bk, ct⟩ σ H := k
theorem r_dputI {p : Addr} {kvs : List (Key × V)} {i : Int} {v : V} {P : Hp → Prop} (h : H p = some (.dK kvs)) (hl : kvs.length ≤ 100000) (k : ∀ H', H' p = some (.dK (putK kvs (.inl i) v)) → (∀ b, b ≠ p → H' b = H b) → P H') : DPt v (.ref p) (.int i) H P :=
  ⟨p, _, rfl, .inl ⟨kvs, .inl i, h, rfl, Nat.lt_of_le_of_lt hl (by decide), rfl⟩, k _ upd_same fun b hb => upd_ne hb⟩
def DNew (H : Hp) (Q : VK) : Prop := ∀ p, H p = none → Q (.ref p) (upd H p (.dK []))
theorem r_dnew (k : DNew H Q) : tDNewK σ H Q := k
theorem r_dnewK (k : ∀ p H', H p = none → Ext H H' → H' p = some (.dK []) → Q (.ref p) H') : DNew H Q := fun p hp => k p _ hp (Ext.new hp) upd_same
/-- {k: v} -/
def DP1 (p : Addr) (x y : V) (H2 : Hp) (Q : VK) : Prop := H2 p = some (HO.dK []) ∧ ∃ kvs : List (Key × V), [(x, y)] = List.map (fun kv => (kV kv.fst, kv.snd)) kvs ∧ kvs.length ≤ 15 ∧ Q (V.ref p) (upd H2 p (HO.dK (mergeK [] kvs)))
def Disp1 (tk tv : TE) (σ : L2.St) (H : Hp) (Q : VK) : Prop := ∀ p, H p = none → tk σ (upd H p (.dK [])) fun x H1 => tv σ H1 fun y H2 => DP1 p x y H2 Q
theorem r_disp1 (k : Disp1 td tv σ H Q) : tDisp [(td, tv)] σ H Q := k
theorem r_disp (k : ∀ p H0, H p = none → Ext H H0 → H0 p = some (.dK []) → td σ H0 fun x H1 => tv σ H1 fun y H2 => DP1 p x y H2 Q) : Disp1 td tv σ H Q := fun p hp => k p _ hp (Ext.new hp) upd_same
theorem r_dp1 {p : Addr} {i : Int} {y : V} (h : H p = some (.dK [])) (k : ∀ H3, H3 p = some (.dK [(.inl i, y)]) → (∀ b, b ≠ p → H3 b = H b) → Q (.ref p) H3) : DP1 p (.int i) y H Q :=
  ⟨h, [(.inl i, y)], rfl, Nat.le_of_ble_eq_true rfl, k _ upd_same fun b hb => upd_ne hb⟩
/-- sorted(d) -/
def SrtD : List V → Hp → VK → Prop := fun xs H Q => ∃ (a : Addr) (kvs : List (Key × V)) (ks : List Int), xs = [.ref a] ∧ Rd H a (.dK kvs) ∧ kvs.map (·.1) = ks.map Sum.inl ∧ ks.length < 64 ∧ ∀ (ys : List Int) (p : Addr), ys.Perm ks → ys.Pairwise (· ≤ ·) → H p = none → Q (.ref p) (upd H p (.lst (ys.map V.int)))
theorem sortedD {X : Cx} (hc : X.calm = true) : CallR X (.builtin "sorted") SrtD := call_sortedDI hc
theorem r_srtD {p : Addr} {kvs : List (Key × V)} {ks : List Int} (h : H p = some (.dK kvs)) (e : kvs.map (·.1) = ks.map Sum.inl) (hl : ks.length < 64) (k : ∀ (ys : List Int) q H', ys.Perm ks → ys.Pairwise (· ≤ ·) → H q = none → Ext H H' → H' q = some (.lst (ys.map V.int)) → Q (.ref q) H') : SrtD [.ref p] H Q :=
  ⟨p, kvs, ks, rfl, .inl h, e, hl, fun ys q h1 h2 hq => k ys q _ h1 h2 hq (Ext.new hq) upd_same⟩
/-! lists of ints compared -/
theorem eqvAll_ints : ∀ ns ms : List Int, PyData.eqvAll (ns.map PyData.int) (ms.map PyData.int) = decide (ns = ms)
  | [], [] => by simp [PyData.eqvAll]
  | [], m :: ms => by simp [PyData.eqvAll]
  | n :: ns, [] => by simp [PyData.eqvAll]
  | n :: ns, m :: ms => by
    rw [List.map_cons, List.map_cons]
    have h := eqvAll_ints ns ms
    simp [PyData.eqvAll, PyData.eqv, h]
    by_cases e : n = m <;> simp [e]
theorem lay_ints : ∀ ns : List Int, PyData.canLayAll0 (ns.map PyData.int) = true ∧ PyData.depthAll (ns.map PyData.int) ≤ 63
  | [] => by simp [PyData.canLayAll0, PyData.depthAll]
  | n :: ns => by
    have h := lay_ints ns
    simp [PyData.canLayAll0, PyData.canLay0, PyData.depthAll, PyData.depth, h.1]
    have := h.2
    omega
theorem shaped_ints (ns : List Int) : SeqAt.shaped (.list (ns.map PyData.int)) = true := by
  have h := lay_ints ns
  simp [SeqAt.shaped, PyData.canLay0, PyData.depth, h.1, h.2]
theorem r_otherI {a b : Addr} {ns ms : List Int} (h1 : SqL K H a (ns.map V.int)) (h2 : SqL K H b (ms.map V.int)) (k : Q (.bl (!decide (ns = ms))) H) : rOther K (.ref a) (.ref b) H Q :=
  .inr ⟨.list (ns.map PyData.int), .list (ms.map PyData.int), .lst h1 (dps_ints ns), .lst h2 (dps_ints ms), shaped_ints ns, shaped_ints ms, by
    have e : (PyData.list (ns.map PyData.int)).eqv (.list (ms.map PyData.int)) = decide (ns = ms) := by
      rw [← eqvAll_ints]
      simp [PyData.eqv]
    rw [e]
    exact k⟩
end
end L3
namespace L3
open PySem PySem.Spec PyProof.Rows L2 He
def LstRg1 (x : V) (H1 : Hp) (Q : VK) : Prop := ∃ n : Int, x = .int n ∧ RgOk 0 n ∧ ∀ q, H1 q = none → Q (.ref q) (upd H1 q (.lst (rgV 0 n)))
theorem r_listRg1 {ta : TE} {σ : L2.St} {H : Hp} {Q : VK} (k : ta σ H fun x H1 => LstRg1 x H1 Q) : tLstRg (tRg1 ta) σ H Q := k
theorem r_rg0 {n : Nat} {H : Hp} {Q : VK} (h : n ≤ 100000) (k : ∀ q H', H q = none → Ext H H' → H' q = some (.lst ((List.range n).map fun (i : Nat) => V.int (i : Nat))) → Q (.ref q) H') : LstRg1 (.int (n : Int)) H Q := by
  refine ⟨n, rfl, ⟨by decide, by decide, by omega, by omega, by omega⟩, fun q hq => k q _ hq (Ext.new hq) ?_⟩
  rw [upd_same]
  unfold rgV
  rw [show ((n : Int) - 0).toNat = n by omega]
  congr 2
  refine List.map_congr_left fun i _ => ?_
  rw [Int.zero_add]
/-! ### rows that are changed in place -/
structure RQ (p : Addr) (H1 : Hp) (ts : Addr) (as : List Addr) (st : List (List Int)) (H : Hp) : Prop where
  p1 : H1 p ≠ none
  s : Src H p
  b : But p H1 H
  t : H ts = some (.lst (as.map V.ref))
  tn : H1 ts = none
  len : as.length = st.length
  nd : as.Nodup
  row : ∀ (j : Nat) (row : List Int), st[j]? = some row → ∃ a, as[j]? = some a ∧ a ≠ p ∧ a ≠ ts ∧ H1 a = none ∧ H a = some (.lst (row.map V.int))
section
variable {p ts : Addr} {H1 H H' : Hp} {as : List Addr} {st : List (List Int)}
theorem RQ.tp (h : RQ p H1 ts as st H) : ts ≠ p := fun e => h.p1 (by rw [← e]; exact h.tn)
theorem RQ.pick (h : RQ p H1 ts as st H) (s : Src H' p) (n : ∀ b, b ≠ p → H' b = H b) : RQ p H1 ts as st H' :=
  ⟨h.p1, s, h.b.trans (.of n), (n _ h.tp).trans h.t, h.tn, h.len, h.nd, fun j r hj => by
    obtain ⟨a, a1, a2, a3, a4, a5⟩ := h.row j r hj
    exact ⟨a, a1, a2, a3, a4, (n a a2).trans a5⟩⟩
theorem RQ.but (h : RQ p H1 ts as st H) (s : Src H' p) (n : But p H H') : RQ p H1 ts as st H' :=
  ⟨h.p1, s, h.b.trans n, n _ _ h.tp h.t, h.tn, h.len, h.nd, fun j r hj => by
    obtain ⟨a, a1, a2, a3, a4, a5⟩ := h.row j r hj
    exact ⟨a, a1, a2, a3, a4, n a _ a2 a5⟩⟩
theorem RQ.ext (h : RQ p H1 ts as st H) (e : Ext H H') : RQ p H1 ts as st H' := h.but (h.s.ext e) (ext_but e)
theorem nodup_atA {l : List Addr} (h : l.Nodup) : ∀ {i j : Nat} {a : Addr}, l[i]? = some a → l[j]? = some a → i = j := by
  induction l with
  | nil => intro i j a hi; simp at hi
  | cons b l ih =>
    intro i j a hi hj
    rw [List.nodup_cons] at h
    cases i with
    | zero =>
      cases j with
      | zero => rfl
      | succ j =>
        simp at hi hj
        exact absurd (List.mem_of_getElem? hj) (hi ▸ h.1)
    | succ i =>
      cases j with
      | zero =>
        simp at hi hj
        exact absurd (List.mem_of_getElem? hi) (hj ▸ h.1)
      | succ j =>
        simp at hi hj
        rw [ih h.2 hi hj]
theorem RQ.upd (h : RQ p H1 ts as st H) {r : Nat} {a : Addr} {row' : List Int} (ha : as[r]? = some a) (h' : H' a = some (.lst (row'.map V.int))) (n : ∀ b, b ≠ a → H' b = H b) : RQ p H1 ts as (st.set r row') H' := by
  have hr : r < st.length := by rw [← h.len]; exact (List.getElem?_eq_some_iff.mp ha).1
  obtain ⟨a', a1, a2, a3, a4, a5⟩ := h.row r _ (List.getElem?_eq_getElem hr)
  rw [ha] at a1
  cases a1
  refine ⟨h.p1, h.s.stay (.of n) a2.symm, h.b.mut a4 n, (n _ a3.symm).trans h.t, h.tn, by rw [List.length_set]; exact h.len, h.nd, fun j r' hj => ?_⟩
  by_cases c : r = j
  · subst c
    rw [List.getElem?_set_self hr] at hj
    cases hj
    exact ⟨a, ha, a2, a3, a4, h'⟩
  · rw [List.getElem?_set_ne c] at hj
    obtain ⟨b, b1, b2, b3, b4, b5⟩ := h.row j r' hj
    exact ⟨b, b1, b2, b3, b4, (n b fun e => c (nodup_atA h.nd ha (e ▸ b1))).trans b5⟩
theorem RQ.add (h : RQ p H1 ts as st H) {H2 H3 : Hp} {b : Addr} {row : List Int} (hb : H b = none) (s2 : Src H2 p) (e : But p H H2) (h2 : H2 b = some (.lst (row.map V.int))) (h3 : H3 ts = some (.lst (as.map V.ref ++ [V.ref b]))) (n : ∀ c, c ≠ ts → H3 c = H2 c) : RQ p H1 ts (as ++ [b]) (st ++ [row]) H3 := by
  have h' := h.but s2 e
  have bts : b ≠ ts := fun z => by rw [z, h.t] at hb; cases hb
  have bp : b ≠ p := (src_ne h.s hb).symm
  have b1 : H1 b = none := by
    cases q : H1 b with
    | none => rfl
    | some o => rw [h.b _ _ bp q] at hb; cases hb
  have nb : b ∉ as := fun hm => by
    obtain ⟨j, hj⟩ := List.mem_iff_getElem?.mp hm
    have hl := (List.getElem?_eq_some_iff.mp hj).1
    obtain ⟨c, c1, _, _, _, c5⟩ := h.row j _ (List.getElem?_eq_getElem (by rw [← h.len]; exact hl))
    rw [hj] at c1
    cases c1
    rw [hb] at c5
    cases c5
  refine ⟨h.p1, s2.stay (.of n) h.tp.symm, h'.b.mut h.tn n, by rw [h3, List.map_append]; rfl, h.tn, by rw [List.length_append, List.length_append, h.len]; rfl, ?_, fun j r hj => ?_⟩
  · rw [List.nodup_append]
    exact ⟨h.nd, by simp, fun x hx y hy e => nb (by rw [← List.mem_singleton.mp hy, ← e]; exact hx)⟩
  · have hlen := h.len
    by_cases c : j < st.length
    · rw [List.getElem?_append_left c] at hj
      obtain ⟨x, x1, x2, x3, x4, x5⟩ := h'.row j r hj
      exact ⟨x, by rw [List.getElem?_append_left (by omega)]; exact x1, x2, x3, x4, (n x x3).trans x5⟩
    · have hlt := (List.getElem?_eq_some_iff.mp hj).1
      rw [List.length_append] at hlt
      have hlt : j < st.length + 1 := hlt
      rw [List.getElem?_append_right (by omega), show j - st.length = 0 by omega] at hj
      cases hj
      exact ⟨b, by rw [List.getElem?_append_right (by omega), show j - as.length = 0 by omega]; rfl, bp, bts, b1, (n b bts).trans h2⟩
theorem RQ.nw (h : RQ p H1 ts as st H) : Nw (fun a => a ≠ p ∧ H1 a = none) H (.ref ts) (tbD st) :=
  Grid.nw (as := as) ⟨⟨h.tp, h.tn⟩, h.t, h.len, fun j r hj => by
    obtain ⟨a, a1, a2, a3, a4, a5⟩ := h.row j r hj
    exact ⟨a, a1, ⟨a2, a4⟩, a5⟩⟩
end
end L3
namespace L3
open PySem PySem.Spec PyProof.Rows L2 He
theorem ite_joinE {b : Bool} {ta tb : TE} {σ : L2.St} {H : Hp} {Q : VK} (M : V → Hp → Prop) (h1 : ∀ Q' : VK, (∀ v H', M v H' → Q' v H') → if b = true then ta σ H Q' else tb σ H Q') (h2 : ∀ v H', M v H' → Q v H') : if b = true then ta σ H Q else tb σ H Q := h1 Q h2
theorem But.noneOf {p a : Addr} {H H' : Hp} (b : But p H H') (ap : a ≠ p) (h : H' a = none) : H a = none := by
  cases q : H a with
  | none => rfl
  | some o => rw [b _ _ ap q] at h; cases h
theorem Grid.keep {S : Addr → Prop} {H H' : Hp} {t : Addr} {as : List Addr} {st : List (List Int)} (g : Grid S H t as st) (h : ∀ a o, S a → H a = some o → H' a = some o) : Grid S H' t as st :=
  ⟨g.top, h _ _ g.top g.at_, g.len, fun i row hi => by
    obtain ⟨a, a1, a2, a3⟩ := g.row i row hi
    exact ⟨a, a1, a2, h _ _ a2 a3⟩⟩
theorem Grid.app {S : Addr → Prop} {H : Hp} {t u : Addr} {as bs : List Addr} {st su : List (List Int)} (g : Grid S H t as st) (su' : S u) (h : H u = some (.lst (as.map V.ref ++ bs.map V.ref))) (hl : bs.length = su.length) (hr : ∀ (i : Nat) (row : List Int), su[i]? = some row → ∃ a, bs[i]? = some a ∧ S a ∧ H a = some (.lst (row.map V.int))) : Grid S H u (as ++ bs) (st ++ su) := by
  refine ⟨su', by rw [h, List.map_append], by rw [List.length_append, List.length_append, g.len, hl], fun i row hi => ?_⟩
  have gl := g.len
  by_cases c : i < st.length
  · rw [List.getElem?_append_left c] at hi
    obtain ⟨a, a1, a2⟩ := g.row i row hi
    exact ⟨a, by rw [List.getElem?_append_left (by omega)]; exact a1, a2⟩
  · rw [List.getElem?_append_right (by omega)] at hi
    obtain ⟨a, a1, a2⟩ := hr _ row hi
    exact ⟨a, by rw [List.getElem?_append_right (by omega), gl]; exact a1, a2⟩
end L3
set_option maxRecDepth 100000
set_option maxHeartbeats 4000000
/-! CmN: constants of the top (texts, numbers, tuples of texts, tables of tuples), own classes, texts. -/
namespace L3
open PySem PySem.Spec PyProof.Rows L2 He
/-- a tuple of texts that the top has left -/
def TupK (K : PySem.W.Frag) (a : Addr) (ss : List Str) : Prop := ∀ H, SqT K H a (ss.map V.str)
def strsOf : List Value → List Str → Bool
  | [], [] => true
  | .str s _ :: r, t :: ts => decide (s = t) && strsOf r ts
  | _, _ => false
theorem strsOf_ok : ∀ {us : List Value} {ss : List Str}, strsOf us ss = true → Vals (ss.map V.str) us
  | [], [], _ => .nil
  | .str s t :: r, x :: ts, h => by
    obtain ⟨h1, h2⟩ := ba h
    have e := of_decide_eq_true h1
    subst e
    exact .cons ⟨t, rfl⟩ (strsOf_ok h2)
def tupB (K : PySem.W.Frag) (a : Addr) (ss : List Str) : Bool := match K.lookup a with
  | some ⟨.type t, _, .seq its _, _⟩ => decide (t = "tuple") && (decide (its.size ≤ 1000) && strsOf its.toList ss)
  | _ => false
theorem tupB_ok {K : PySem.W.Frag} {a : Addr} {ss : List Str} (h : tupB K a ss = true) : TupK K a ss := by
  intro H
  unfold tupB at h
  split at h
  · rename_i t dd its n sl ho
    obtain ⟨h1, h⟩ := ba h
    obtain ⟨h2, h3⟩ := ba h
    have e := of_decide_eq_true h1
    subst e
    exact .inr ⟨_, its, n, ho, rfl, rfl, Nat.le_trans (of_decide_eq_true h2) (by decide), strsOf_ok h3⟩
  · cases h
def ttB (K : PySem.W.Frag) (x : Str) (kvs : List (Str × List Str)) : Bool := kvs.all fun q => match PySem.W.nsIn K (ga K x) q.1 with
  | some (some (.ref b)) => tupB K b q.2
  | _ => false
theorem ttB_ok {K : PySem.W.Frag} {w : World} {x : Str} {kvs : List (Str × List Str)} {es : Array DictEntry} {n : Nat} (h : ttB K x kvs = true) (D : KDict K w (ga K x) es n) {k : Str} {ss : List Str} (hq : (k, ss) ∈ kvs) : ∃ b, KDct K w (ga K x) k (.ref b) ∧ TupK K b ss := by
  have h := List.all_eq_true.mp h _ hq
  dsimp only at h
  split at h
  · rename_i b hb
    exact ⟨b, ⟨es, n, .ref b, D.at_, D.lit, hb, rfl⟩, tupB_ok h⟩
  · cases h
/-- constants -/
theorem pe_kstr {X : Cx} {x z : Str} {pos : Pos} (h : ∃ t, X.mg x = some (.str z t)) (hg : Gl X x := by rfl) (hdb : (x == ("__debug__" : Str)) = false := by decide) : PE X (.Name x pos) (tC (.str z)) :=
  pe_glob hg (Classical.choose_spec h) ⟨_, rfl⟩ hdb
theorem pe_kint {X : Cx} {x : Str} {z : Int} {pos : Pos} (h : ∃ t, X.mg x = some (.int z t)) (hg : Gl X x := by rfl) (hdb : (x == ("__debug__" : Str)) = false := by decide) : PE X (.Name x pos) (tC (.int z)) :=
  pe_glob hg (Classical.choose_spec h) ⟨_, rfl⟩ hdb
/-! ### own classes -/
structure CalM (P : Program) (w : World) (K : PySem.W.Frag) (mg : Str → Option Value) (base : Heap) (k : Nat) (C m : Str) (ps : List Str) (sp : Sp) : Prop where
  ok : ∃ fd, FnOk P w K mg base (L2N.CX P w) k (ma K (ga K C) m) fd ps sp ∧ Binds K fd ps []
theorem CalM.imp {P : Program} {w : World} {K : PySem.W.Frag} {mg : Str → Option Value} {base : Heap} {k : Nat} {C m : Str} {ps : List Str} {sp sp' : Sp} (c : CalM P w K mg base k C m ps sp) (h : ∀ vs H Q E, sp' vs H Q E → sp vs H Q E) : CalM P w K mg base k C m ps sp' := by
  obtain ⟨fd, F, b⟩ := c.ok
  exact ⟨fd, F.imp h, b⟩
section
variable {P : Program} {w : World} {K : PySem.W.Frag} {mg : Str → Option Value} {base : Heap}
theorem calM_of {C m q : Str} {st : Stmt} {N ps : List Str} {k : Nat} {sp : Sp} (D : ∃ fd, FunD K m q (defArgs st) (defBody st) (defScope st) [] [] (ma K (ga K C) m) fd) (S : FnScope N ps (defScope st))
    (hb : ∀ (dV kV doc pm : Value) (an : Option Addr) (cdv ct : Value) (us : List Value), us.length = ps.length → bindArgs (PySem.W.fnOf m q (defArgs st) (defBody st) (defScope st) .none kV doc pm an cdv ct) ⟨us, []⟩ = pure (ps.zip us))
    (len : ∀ vs H Q E, sp vs H Q E → vs.length = ps.length)
    (hbody : ∀ (cdv : Value) (A : Around) (outer : List Env) (s : Shared) (H : Hp) (vs : List V) (Q : VK) (E : XK), Room k (A.deeper (envOfC q (defScope st) s.heap.objs.size (ma K (ga K C) m) cdv)) → sp vs H Q E →
      ∃ t, PSs (cxOf (L2N.CX P w) P w K mg base N q (defScope st) (ma K (ga K C) m) cdv A outer s H E) (defBody st) t ∧ t { nx := fun _ H' => Q .non H', rt := Q } (start N vs) H) : CalM P w K mg base (k + 1) C m ps sp := by
  obtain ⟨fd, F⟩ := D
  exact ⟨fd, F.ok S len hbody, F.bindsN fun kV doc pm an cdv ct us hl => hb .none kV doc pm an cdv ct us hl⟩
/-- nothing is let out -/
abbrev noE : XK := fun _ _ _ => False
theorem noP {X : Cx} : Passes (L2N.CX X.prog X.w) X noE := fun _ _ _ _ _ _ _ c => (cx_none c).elim
end
section
variable {X : Cx}
theorem pe_calM {k j : Nat} {C m : Str} {ps : List Str} {sp : Sp} {pos apos : Pos} {o e : Expr} {es : List Expr} {ta : TE} {t : TA} {pl : Sem Bool} (cl : Cls X.K (ga X.K C)) (hm : Meth X.K (ga X.K C) m (ma X.K (ga X.K C) m)) (c : CalM X.prog X.w X.K X.mg X.base j C m ps sp) (hr : Room k X.A) (hj : j ≤ k) (ho : PE X o ta) (ha : PA X (e :: es) t)
    (he : eval (.Call (.Attribute o m apos) (e :: es) [] pos) X.env = (do
      let ov ← eval o X.env
      standAt apos.atName
      let (f, first) ← holding [ov] (getMethod ov m pl)
      callWith pos f first (backTo pos (starEach (e :: es) X.env)) (backToKw pos (keywordEach [] X.env))) := by rfl)
    (h2 : starEach (e :: es) X.env = (false, eval e X.env) :: starEach es X.env := by rfl) (hpl : (backTo pos (starEach es X.env)).any (·.1) = false := by rfl) :
    PE X (.Call (.Attribute o m apos) (e :: es) [] pos) (tMeth (ga X.K C) m sp [] noE ta t) := by
  have z : ∃ fd, FnOk X.prog X.w X.K X.mg X.base (L2N.CX X.prog X.w) j (ma X.K (ga X.K C) m) fd ps sp ∧ Binds X.K fd ps [] := c.ok
  have key := Classical.choose_spec z
  exact pe_meth ho cl hm key.1 (hr.mono hj) key.2 .nil noP ha h2 hpl he
theorem pe_calM0 {k j : Nat} {C m : Str} {ps : List Str} {sp : Sp} {pos apos : Pos} {o : Expr} {ta : TE} {pl : Sem Bool} (cl : Cls X.K (ga X.K C)) (hm : Meth X.K (ga X.K C) m (ma X.K (ga X.K C) m)) (c : CalM X.prog X.w X.K X.mg X.base j C m ps sp) (hr : Room k X.A) (hj : j ≤ k) (ho : PE X o ta)
    (he : eval (.Call (.Attribute o m apos) [] [] pos) X.env = (do
      let ov ← eval o X.env
      standAt apos.atName
      let (f, first) ← holding [ov] (getMethod ov m pl)
      callWith pos f first (backTo pos (starEach [] X.env)) (backToKw pos (keywordEach [] X.env))) := by rfl) :
    PE X (.Call (.Attribute o m apos) [] [] pos) (tMeth (ga X.K C) m sp [] noE ta tNil) := by
  have z : ∃ fd, FnOk X.prog X.w X.K X.mg X.base (L2N.CX X.prog X.w) j (ma X.K (ga X.K C) m) fd ps sp ∧ Binds X.K fd ps [] := c.ok
  have key := Classical.choose_spec z
  exact pe_meth0 ho cl hm key.1 (hr.mono hj) key.2 .nil noP he
theorem pe_mkG {k j : Nat} {C : Str} {ps : List Str} {sp : Sp} {p pos : Pos} {e : Expr} {es : List Expr} {t : TA} (M : Mk X.K (ga X.K C) (ma X.K (ga X.K C) "__init__")) (hm : X.mg C = some (.ref (ga X.K C))) (c : CalM X.prog X.w X.K X.mg X.base j C "__init__" ps sp) (hr : Room k X.A) (hj : j + 1 ≤ k) (ha : PA X (e :: es) t)
    (hg : Gl X C := by rfl) (hdb : (C == ("__debug__" : Str)) = false := by decide) (h2 : starEach (e :: es) X.env = (false, eval e X.env) :: starEach es X.env := by rfl) (hpl : (backTo pos (starEach es X.env)).any (·.1) = false := by rfl) :
    PE X (.Call (.Name C p) (e :: es) [] pos) (tMake (ga X.K C) sp [] noE t) := by
  have z : ∃ fd, FnOk X.prog X.w X.K X.mg X.base (L2N.CX X.prog X.w) j (ma X.K (ga X.K C) "__init__") fd ps sp ∧ Binds X.K fd ps [] := c.ok
  have key := Classical.choose_spec z
  exact pe_make M key.1 (hr.mono hj) hg hm key.2 .nil noP ha hdb h2 hpl
end
end L3
namespace L3
open PySem PySem.Spec PyProof.Rows L2 He
section
variable {K : PySem.W.Frag} {σ : L2.St} {H : Hp} {Q : VK} {ta tv te to : TE} {t : TA} {nx bk ct : L2.St → Hp → Prop} {rt : VK} {C : Addr} {f m : Str} {sp : Sp}
/-! ### readings: objects -/
def MethR (C : Addr) (m : Str) (sp : Sp) (t : TA) (σ : L2.St) (x : V) (H1 : Hp) (Q : VK) : Prop := ∃ a dx fs, x = .ref a ∧ H1 a = some (.ins C dx fs) ∧ fs.lookup m = none ∧ t σ H1 fun vs H2 => sp (x :: (vs ++ [])) H2 Q noE
theorem r_meth (k : ta σ H fun x H1 => MethR C m sp t σ x H1 Q) : tMeth C m sp [] noE ta t σ H Q := k
theorem r_mt {a dx : Addr} {fs : List (Str × V)} (h : H a = some (.ins C dx fs)) (hl : fs.lookup m = none) (k : t σ H fun vs H2 => sp (.ref a :: (vs ++ [])) H2 Q noE) : MethR C m sp t σ (.ref a) H Q := ⟨a, dx, fs, rfl, h, hl, k⟩
def FldR (K : PySem.W.Frag) (f : Str) (x : V) (H1 : Hp) (Q : VK) : Prop := ∃ a C dx fs v, x = .ref a ∧ H1 a = some (.ins C dx fs) ∧ Cls K C ∧ NoAttr K C f ∧ fs.lookup f = some v ∧ Q v H1
theorem r_fld (k : ta σ H fun x H1 => FldR K f x H1 Q) : tFld K ta f σ H Q := k
theorem r_fd {a dx : Addr} {fs : List (Str × V)} {v : V} (c : Cls K C) (n : NoAttr K C f) (h : H a = some (.ins C dx fs)) (e : fs.lookup f = some v) (k : Q v H) : FldR K f (.ref a) H Q := ⟨a, C, dx, fs, v, rfl, h, c, n, e, k⟩
def SFldR (K : PySem.W.Frag) (f : Str) (y x : V) (H2 : Hp) (P : Hp → Prop) : Prop := ∃ a C dx fs, x = .ref a ∧ H2 a = some (.ins C dx fs) ∧ Cls K C ∧ NoAttr K C f ∧ fs.length < 1000 ∧ P (upd H2 a (.ins C dx (putF f y fs)))
theorem r_sfld (k : tv σ H fun y H1 => ta σ H1 fun x H2 => SFldR K f y x H2 fun H3 => nx σ H3) : sFld K ta tv f ⟨nx, rt, bk, ct⟩ σ H := k
theorem r_sf {a dx : Addr} {fs : List (Str × V)} {y : V} {P : Hp → Prop} (c : Cls K C) (n : NoAttr K C f) (h : H a = some (.ins C dx fs)) (hl : fs.length < 1000) (k : ∀ H', H' a = some (.ins C dx (putF f y fs)) → (∀ b, b ≠ a → H' b = H b) → P H') : SFldR K f y (.ref a) H P := ⟨a, C, dx, fs, rfl, h, c, n, hl, k _ upd_same fun b hb => upd_ne hb⟩
def MakeR (C : Addr) (sp : Sp) (vs : List V) (H1 : Hp) (Q : VK) : Prop := ∀ x dx, H1 x = none → H1 dx = none → dx ≠ x → sp (.ref x :: (vs ++ [])) (upd (upd H1 dx (.own x)) x (.ins C dx [])) (fun v H2 => v = .non ∧ Q (.ref x) H2) noE
theorem r_make (k : t σ H fun vs H1 => MakeR C sp vs H1 Q) : tMake C sp [] noE t σ H Q := k
theorem r_mk {vs : List V} (k : ∀ x dx H2, H x = none → H dx = none → Ext H H2 → H2 x = some (.ins C dx []) → sp (.ref x :: (vs ++ [])) H2 (fun v H3 => v = .non ∧ Q (.ref x) H3) noE) : MakeR C sp vs H Q := fun x dx hx hd ne =>
  k x dx _ hx hd (fun a o h => by rw [upd_ne (ne_of_none h hx), upd_ne (ne_of_none h hd)]; exact h) upd_same
/-! ### texts -/
def StrS : List V → Hp → VK → Prop := fun xs H Q => (∃ i, xs = [.int i] ∧ i.natAbs.log2 < 1920 ∧ Q (.str (Str.ofString (toString i))) H) ∨ ∃ a, xs = [.str a] ∧ Q (.str a) H
theorem cr_str {X : Cx} : CallR X (.type "str") StrS := fun pins s σ H xs us Q I rv h => h.elim (fun h => call_str_int pins s σ H xs us Q I rv h) fun h => SkE.call_str_str pins s σ H xs us Q I rv h
theorem r_strI {i : Int} (h : i.natAbs.log2 < 1920) (k : Q (.str (Str.ofString (toString i))) H) : StrS [.int i] H Q := .inl ⟨i, rfl, h, k⟩
theorem r_strS {a : Str} (k : Q (.str a) H) : StrS [.str a] H Q := .inr ⟨a, rfl, k⟩
def IntT : List V → Hp → VK → Prop := fun xs H Q => (∃ a n, xs = [.str a] ∧ PySem.intText? a = some n ∧ a.length ≤ 640 ∧ Q (.int n) H) ∨ IntS xs H Q
theorem cr_intT {X : Cx} : CallR X (.type "int") IntT := fun pins s σ H xs us Q I rv h => h.elim (fun h => call_int_str pins s σ H xs us Q I rv h) fun h => cr_int pins s σ H xs us Q I rv h
theorem r_intT {a : Str} {n : Int} (h : PySem.intText? a = some n) (hl : a.length ≤ 640) (k : Q (.int n) H) : IntT [.str a] H Q := .inl ⟨a, n, rfl, h, hl, k⟩
theorem r_intTI {i : Int} (k : Q (.int i) H) : IntT [.int i] H Q := .inr (r_intI k)
def OrdS : List V → Hp → VK → Prop := fun xs H Q => ∃ x, xs = [.str x] ∧ x.length = 1 ∧ Q (.int ((x.cps.getD 0 0 : Nat) : Int)) H
theorem cr_ord {X : Cx} : CallR X (.builtin "ord") OrdS := call_ord
theorem r_ord {c : Nat} (k : Q (.int (c : Nat)) H) : OrdS [.str ⟨#[c]⟩] H Q := ⟨_, rfl, rfl, k⟩
def M1R (r : V → List V → Hp → VK → Prop) (te : TE) (σ : L2.St) (x : V) (H1 : Hp) (Q : VK) : Prop := (∃ a, x = .str a) ∧ te σ H1 fun y H2 => r x [y] H2 Q
theorem r_m1 {r : V → List V → Hp → VK → Prop} (k : to σ H fun x H1 => M1R r te σ x H1 Q) : tM1 r to te σ H Q := k
theorem r_m1s {r : V → List V → Hp → VK → Prop} {a : Str} (k : te σ H fun y H2 => r (.str a) [y] H2 Q) : M1R r te σ (.str a) H Q := ⟨⟨a, rfl⟩, k⟩
def JoinR (K : PySem.W.Frag) : V → List V → Hp → VK → Prop := fun x xs H Q => ∃ a p, ∃ ys : List Str, x = .str a ∧ xs = [.ref p] ∧ (SqL K H p (ys.map V.str) ∨ SqT K H p (ys.map V.str)) ∧ (ys.map (·.length)).sum + ys.length * a.length ≤ 16777216 ∧ Q (.str (Txt.join a ys)) H
def SplitR : V → List V → Hp → VK → Prop := fun x xs H Q => ∃ a b, x = .str a ∧ xs = [.str b] ∧ (b.length == 0) = false ∧ a.length + 2 ≤ sizeLine ∧ rNewStrs (Txt.split a b) H Q
theorem r_join {a : Str} {p : Addr} {ys : List Str} (h : SqL K H p (ys.map V.str)) (hl : (ys.map (·.length)).sum + ys.length * a.length ≤ 16777216) (k : Q (.str (Txt.join a ys)) H) : JoinR K (.str a) [.ref p] H Q := ⟨a, p, ys, rfl, rfl, .inl h, hl, k⟩
theorem r_split {a b : Str} (hb : (b.length == 0) = false) (hl : a.length ≤ 16000000) (k : ∀ q H', H q = none → Ext H H' → H' q = some (.lst ((Txt.split a b).map V.str)) → Q (.ref q) H') : SplitR (.str a) [.str b] H Q :=
  ⟨a, b, rfl, rfl, hb, by rw [sizeLine_eq]; omega, fun q hq => k q _ hq (Ext.new hq) upd_same⟩
theorem pe_joinK {X : Cx} {o e : Expr} {to te : TE} {apos pos : Pos} (ho : PE X o to) (he : PE X e te) (h1 : starEach [e] X.env = [(false, eval e X.env)] := by rfl) (h2 : attributeBase o "join" X.env (eval o X.env) = eval o X.env := by rfl) (h3 : (apos.endLine == pos.line) = true := by rfl) (hK : X.K = K := by rfl) : PE X (.Call (.Attribute o "join" apos) [e] [] pos) (tM1 (JoinR K) to te) := hK ▸ pe_join ho he h1 h2 h3
theorem pe_splitK {X : Cx} {o e : Expr} {to te : TE} {apos pos : Pos} (ho : PE X o to) (he : PE X e te) (h1 : starEach [e] X.env = [(false, eval e X.env)] := by rfl) (h2 : attributeBase o "split" X.env (eval o X.env) = eval o X.env := by rfl) (h3 : (apos.endLine == pos.line) = true := by rfl) : PE X (.Call (.Attribute o "split" apos) [e] [] pos) (tM1 SplitR to te) := pe_split ho he h1 h2 h3
def StrI (x : V) (H1 : Hp) (R : It → Hp → Prop) : Prop := ∃ z, x = .str z ∧ R (Its z) H1
theorem r_iS {R : It → Hp → Prop} (k : te σ H fun x H1 => StrI x H1 R) : iStr te σ H R := k
theorem r_si {R : It → Hp → Prop} {z : Str} (k : R (Its z) H) : StrI (.str z) H R := ⟨z, rfl, k⟩
theorem forW_str {g : TG} {tb : TS} {z : Str} (Pv : Nat → L2.St → Hp → Prop) (h0 : Pv 0 σ H) (hs : ∀ i c σ H, z.cps.toList[i]? = some c → Pv i σ H → g (.str ⟨#[c]⟩) σ H fun σ2 H2 => tb ⟨Pv (i + 1), rt, nx, Pv (i + 1)⟩ σ2 H2) (hd : ∀ σ H, Pv z.cps.size σ H → nx σ H) : ForW (Its z) g tb ⟨nx, rt, bk, ct⟩ σ H := by
  refine ⟨fun i m σ H => m = z.cps.size - i ∧ i ≤ z.cps.size ∧ Pv i σ H, ⟨_, rfl, Nat.zero_le _, h0⟩, ?_⟩
  rintro i m σ H ⟨rfl, hi, p⟩
  by_cases c : z.cps.size ≤ i
  · exact .inl ⟨c, hd σ H (by rw [show z.cps.size = i by omega]; exact p)⟩
  · refine .inr ⟨Nat.lt_of_not_le c, Pv (i + 1), fun σ' H' p' => ⟨z.cps.size - (i + 1), by omega, rfl, by omega, p'⟩, ?_⟩
    rintro x H' ⟨rfl, ch, hc, rfl⟩
    exact hs i ch σ _ (by rw [Array.getElem?_toList]; exact hc) p
theorem r_plusS {i j : Str} (h : i.length + j.length ≤ 16000000) (k : Q (.str (i ++ j)) H) : rPlus K (.str i) (.str j) H Q := .inr (.inr ⟨i, j, rfl, rfl, Nat.le_trans h (by decide), k⟩)
/-- a text in a tuple or a list of texts -/
theorem inV_strs {x : Str} {ss : List Str} : inV (.str x) (ss.map V.str) = decide (x ∈ ss) := by
  unfold inV
  rw [Bool.eq_iff_iff, List.any_eq_true, decide_eq_true_iff]
  constructor
  · rintro ⟨y, hy, e⟩
    obtain ⟨s, hs, rfl⟩ := List.mem_map.mp hy
    have : (s == x) = true := e
    rw [← eq_of_beq this]
    exact hs
  · intro h
    exact ⟨.str x, List.mem_map.mpr ⟨x, h, rfl⟩, by show (x == x) = true; simp⟩
theorem flat_strs (ss : List Str) : (ss.map V.str).all flatV = true := by
  rw [List.all_eq_true]
  intro y hy
  obtain ⟨s, _, rfl⟩ := List.mem_map.mp hy
  rfl
theorem r_inStr {t : Addr} {x : Str} {ss : List Str} (h : Seq K H t (ss.map V.str)) (k : Q (.bl (decide (x ∈ ss))) H) : rIn K false (.str x) (.ref t) H Q := ⟨t, _, rfl, h, rfl, flat_strs ss, by rw [inV_strs]; exact k⟩
theorem r_ninStr {t : Addr} {x : Str} {ss : List Str} (h : Seq K H t (ss.map V.str)) (k : Q (.bl (!decide (x ∈ ss))) H) : rIn K true (.str x) (.ref t) H Q := ⟨t, _, rfl, h, rfl, flat_strs ss, by rw [inV_strs]; exact k⟩
theorem r_ixS {z : Str} {i : Int} {c : Nat} (hl : z.length ≤ 16000000) (e : atI z.cps.toList i = some c) (k : Q (.str ⟨#[c]⟩) H) : rIxS (.str z) (.int i) H Q := ⟨z, i, c, rfl, rfl, Nat.le_trans hl (by decide), e, k⟩
theorem r_inC {c : Nat} {z : Str} (k : Q (.bl (decide (c ∈ z.cps.toList))) H) : rInS (.str ⟨#[c]⟩) (.str z) H Q := ⟨c, z, rfl, rfl, k⟩
theorem r_ninC {c : Nat} {z : Str} (k : Q (.bl (!decide (c ∈ z.cps.toList))) H) : rNotInS (.str ⟨#[c]⟩) (.str z) H Q := ⟨c, z, rfl, rfl, k⟩
def LenT : List V → Hp → VK → Prop := fun xs H Q => ∃ z, xs = [.str z] ∧ z.length ≤ sizeLine ∧ Q (.int z.length) H
theorem cr_lenT {X : Cx} : CallR X (.builtin "len") LenT := call_len_str
theorem r_lenS {z : Str} (h : z.length ≤ 16000000) (k : Q (.int z.length) H) : LenT [.str z] H Q := ⟨z, rfl, Nat.le_trans h (by decide), k⟩
/-- an if: what its test tells, once for all its ways -/
theorem r_ifJ {c : TT} {t u : TS} {D : Ends} {σ : L2.St} {H : Hp} (b : Bool) (h1 : ∀ P' : Bool → Hp → Prop, (∀ H', Ext H H' → P' b H') → c σ H P') (h2 : ∀ H', Ext H H' → if b = true then t D σ H' else u D σ H') : tIfS c t u D σ H := h1 _ h2
theorem r_joinE {te : TE} {σ : L2.St} {H : Hp} {Q : VK} (M : V → Hp → Prop) (h1 : ∀ Q' : VK, (∀ v H', M v H' → Q' v H') → te σ H Q') (h2 : ∀ v H', M v H' → Q v H') : te σ H Q := h1 Q h2
/-- None, or data new at places of which S holds -/
def OptD (S : Addr → Prop) (H : Hp) : Option PyData → V → Prop
  | none, x => x = .non
  | some d, x => Nw S H x d
theorem strs_at {ws : List Str} {i : Nat} (h : i < ws.length) : (ws.map V.str)[i]? = some (.str (ws.getD i (Str.ofString ""))) := by
  rw [List.getElem?_map, List.getD_eq_getElem?_getD, List.getElem?_eq_getElem h]; rfl
theorem getD_memS {ws : List Str} {i : Nat} (h : i < ws.length) : ws.getD i (Str.ofString "") ∈ ws := by
  rw [List.getD_eq_getElem?_getD, List.getElem?_eq_getElem h]
  exact List.getElem_mem h
theorem nws_strs {S : Addr → Prop} {H : Hp} : ∀ (ws : List Str), Nws S H (ws.map V.str) (ws.map PyData.str)
  | [] => .nil
  | w :: ws => .cons (.str w) (nws_strs ws)
theorem strE {a b : Str} : (V.str a = V.str b) = (a = b) := by rw [V.str.injEq]
theorem cut_strs (ws : List Str) (k : Nat) : cutV (ws.map V.str) (some (k : Int)) none = (ws.drop k).map V.str := by rw [cut_from, List.map_drop]
end
end L3
set_option maxRecDepth 100000
set_option maxHeartbeats 0
namespace K35
open PySem PySem.Spec PyProof.Rows L2 L3
/-! ### where the defs stand -/
def top (i : Nat) : Stmt := PySem.Challenge.pw_toldoutside_k35_texts_of_codes.main.body.getD i (.Pass ⟨0, 0, 0, 0⟩)
abbrev s_bound : Stmt := top 20
abbrev s_text_lines : Stmt := top 23
abbrev s_parts_of : Stmt := top 24
abbrev s_number_of : Stmt := top 25
abbrev s_copied : Stmt := top 26
abbrev s_is_whole : Stmt := top 29
abbrev s_is_count : Stmt := top 30
abbrev s_is_kind : Stmt := top 31
abbrev s_right_step : Stmt := top 32
abbrev s_right_way : Stmt := top 33
abbrev s_right_row : Stmt := top 34
abbrev s_bound_ways : Stmt := top 35
abbrev s_code_text : Stmt := top 37
abbrev s_row_line : Stmt := top 38
abbrev s_code_from : Stmt := top 39
abbrev s_line_words : Stmt := top 40
abbrev s_signed_number : Stmt := top 41
abbrev s_plain_numbers : Stmt := top 42
abbrev s_row_from : Stmt := top 43
abbrev s_ways_from : Stmt := top 44
abbrev s_way_from : Stmt := top 45
abbrev s_bound_numbers : Stmt := top 46
abbrev s__law_source : Stmt := top 48
abbrev s__law_pick : Stmt := top 49
abbrev s__law_shuffled : Stmt := top 50
abbrev s__law_same : Stmt := top 51
abbrev s__law_copied : Stmt := top 52
abbrev s__law_way_line : Stmt := top 53
abbrev s__law_code_line : Stmt := top 54
abbrev s__law_code_text : Stmt := top 55
abbrev s__law_any_step : Stmt := top 56
abbrev s__law_any_way : Stmt := top 57
abbrev s__law_any_rows : Stmt := top 58
abbrev s__law_odd_row : Stmt := top 59
abbrev s__law_told_fault : Stmt := top 60
abbrev s__law_great : Stmt := top 61
abbrev s__law_drawn : Stmt := top 62
abbrev s__law_read : Stmt := top 63
abbrev s__law_number_words : Stmt := top 64
abbrev s__law_spoilt_line : Stmt := top 65
abbrev s__law_spoilt_text : Stmt := top 66
abbrev s__law_bounds : Stmt := top 67
abbrev s__law_no_text : Stmt := top 68
abbrev s_law : Stmt := top 69
abbrev i_TooMany : Stmt := inClass (top 2) 0
abbrev i_BadText : Stmt := inClass (top 3) 0
abbrev i_BadFormat : Stmt := inClass (top 4) 0
abbrev i_BadValue : Stmt := inClass (top 5) 0
abbrev i_BadShape : Stmt := inClass (top 6) 0
abbrev i_BadRow : Stmt := inClass (top 7) 0
abbrev i_BadSet : Stmt := inClass (top 8) 0
abbrev i_BadReader : Stmt := inClass (top 9) 0
abbrev i_BadLayout : Stmt := inClass (top 10) 0
abbrev i_BadCheck : Stmt := inClass (top 11) 0
abbrev i_BadCode : Stmt := inClass (top 12) 0
abbrev i_BadFeed : Stmt := inClass (top 13) 0
abbrev i_BadEdit : Stmt := inClass (top 14) 0
abbrev i_BadPatch : Stmt := inClass (top 15) 0
abbrev i_BadPaper : Stmt := inClass (top 16) 0
abbrev i_BadDeed : Stmt := inClass (top 17) 0
abbrev m_ReadCode___init__ : Stmt := inClass (top 28) 0
abbrev m_ReadCode_rows : Stmt := inClass (top 28) 1
abbrev m_ReadCode_head : Stmt := inClass (top 28) 2
abbrev m_ReadCode_tail : Stmt := inClass (top 28) 3
/-! ### what the head tells -/
def errs : List Str := (["TooMany", "BadText", "BadFormat", "BadValue", "BadShape", "BadRow", "BadSet", "BadReader", "BadLayout", "BadCheck", "BadCode", "BadFeed", "BadEdit", "BadPatch", "BadPaper", "BadDeed"] : List Str)
structure Txt (w : World) (K : PySem.W.Frag) (mg : Str → Option Value) : Prop where
  g_bound : mg "bound" = some (.ref (He.ga K "bound"))
  d_bound : ∃ fd, FunD K "bound" "bound" (defArgs s_bound) (defBody s_bound) (defScope s_bound) [] [] (He.ga K "bound") fd
  g_text_lines : mg "text_lines" = some (.ref (He.ga K "text_lines"))
  d_text_lines : ∃ fd, FunD K "text_lines" "text_lines" (defArgs s_text_lines) (defBody s_text_lines) (defScope s_text_lines) [] [] (He.ga K "text_lines") fd
  g_parts_of : mg "parts_of" = some (.ref (He.ga K "parts_of"))
  d_parts_of : ∃ fd, FunD K "parts_of" "parts_of" (defArgs s_parts_of) (defBody s_parts_of) (defScope s_parts_of) [] [] (He.ga K "parts_of") fd
  g_number_of : mg "number_of" = some (.ref (He.ga K "number_of"))
  d_number_of : ∃ fd, FunD K "number_of" "number_of" (defArgs s_number_of) (defBody s_number_of) (defScope s_number_of) [] [] (He.ga K "number_of") fd
  g_copied : mg "copied" = some (.ref (He.ga K "copied"))
  d_copied : ∃ fd, FunD K "copied" "copied" (defArgs s_copied) (defBody s_copied) (defScope s_copied) [] [] (He.ga K "copied") fd
  g_is_whole : mg "is_whole" = some (.ref (He.ga K "is_whole"))
  d_is_whole : ∃ fd, FunD K "is_whole" "is_whole" (defArgs s_is_whole) (defBody s_is_whole) (defScope s_is_whole) [] [] (He.ga K "is_whole") fd
  g_is_count : mg "is_count" = some (.ref (He.ga K "is_count"))
  d_is_count : ∃ fd, FunD K "is_count" "is_count" (defArgs s_is_count) (defBody s_is_count) (defScope s_is_count) [] [] (He.ga K "is_count") fd
  g_is_kind : mg "is_kind" = some (.ref (He.ga K "is_kind"))
  d_is_kind : ∃ fd, FunD K "is_kind" "is_kind" (defArgs s_is_kind) (defBody s_is_kind) (defScope s_is_kind) [] [] (He.ga K "is_kind") fd
  g_right_step : mg "right_step" = some (.ref (He.ga K "right_step"))
  d_right_step : ∃ fd, FunD K "right_step" "right_step" (defArgs s_right_step) (defBody s_right_step) (defScope s_right_step) [] [] (He.ga K "right_step") fd
  g_right_way : mg "right_way" = some (.ref (He.ga K "right_way"))
  d_right_way : ∃ fd, FunD K "right_way" "right_way" (defArgs s_right_way) (defBody s_right_way) (defScope s_right_way) [] [] (He.ga K "right_way") fd
  g_right_row : mg "right_row" = some (.ref (He.ga K "right_row"))
  d_right_row : ∃ fd, FunD K "right_row" "right_row" (defArgs s_right_row) (defBody s_right_row) (defScope s_right_row) [] [] (He.ga K "right_row") fd
  g_bound_ways : mg "bound_ways" = some (.ref (He.ga K "bound_ways"))
  d_bound_ways : ∃ fd, FunD K "bound_ways" "bound_ways" (defArgs s_bound_ways) (defBody s_bound_ways) (defScope s_bound_ways) [] [] (He.ga K "bound_ways") fd
  g_code_text : mg "code_text" = some (.ref (He.ga K "code_text"))
  d_code_text : ∃ fd, FunD K "code_text" "code_text" (defArgs s_code_text) (defBody s_code_text) (defScope s_code_text) [] [] (He.ga K "code_text") fd
  g_row_line : mg "row_line" = some (.ref (He.ga K "row_line"))
  d_row_line : ∃ fd, FunD K "row_line" "row_line" (defArgs s_row_line) (defBody s_row_line) (defScope s_row_line) [] [] (He.ga K "row_line") fd
  g_code_from : mg "code_from" = some (.ref (He.ga K "code_from"))
  d_code_from : ∃ fd, FunD K "code_from" "code_from" (defArgs s_code_from) (defBody s_code_from) (defScope s_code_from) [] [] (He.ga K "code_from") fd
  g_line_words : mg "line_words" = some (.ref (He.ga K "line_words"))
  d_line_words : ∃ fd, FunD K "line_words" "line_words" (defArgs s_line_words) (defBody s_line_words) (defScope s_line_words) [] [] (He.ga K "line_words") fd
  g_signed_number : mg "signed_number" = some (.ref (He.ga K "signed_number"))
  d_signed_number : ∃ fd, FunD K "signed_number" "signed_number" (defArgs s_signed_number) (defBody s_signed_number) (defScope s_signed_number) [] [] (He.ga K "signed_number") fd
  g_plain_numbers : mg "plain_numbers" = some (.ref (He.ga K "plain_numbers"))
  d_plain_numbers : ∃ fd, FunD K "plain_numbers" "plain_numbers" (defArgs s_plain_numbers) (defBody s_plain_numbers) (defScope s_plain_numbers) [] [] (He.ga K "plain_numbers") fd
  g_row_from : mg "row_from" = some (.ref (He.ga K "row_from"))
  d_row_from : ∃ fd, FunD K "row_from" "row_from" (defArgs s_row_from) (defBody s_row_from) (defScope s_row_from) [] [] (He.ga K "row_from") fd
  g_ways_from : mg "ways_from" = some (.ref (He.ga K "ways_from"))
  d_ways_from : ∃ fd, FunD K "ways_from" "ways_from" (defArgs s_ways_from) (defBody s_ways_from) (defScope s_ways_from) [] [] (He.ga K "ways_from") fd
  g_way_from : mg "way_from" = some (.ref (He.ga K "way_from"))
  d_way_from : ∃ fd, FunD K "way_from" "way_from" (defArgs s_way_from) (defBody s_way_from) (defScope s_way_from) [] [] (He.ga K "way_from") fd
  g_bound_numbers : mg "bound_numbers" = some (.ref (He.ga K "bound_numbers"))
  d_bound_numbers : ∃ fd, FunD K "bound_numbers" "bound_numbers" (defArgs s_bound_numbers) (defBody s_bound_numbers) (defScope s_bound_numbers) [] [] (He.ga K "bound_numbers") fd
  g__law_source : mg "_law_source" = some (.ref (He.ga K "_law_source"))
  d__law_source : ∃ fd, FunD K "_law_source" "_law_source" (defArgs s__law_source) (defBody s__law_source) (defScope s__law_source) [] [] (He.ga K "_law_source") fd
  g__law_pick : mg "_law_pick" = some (.ref (He.ga K "_law_pick"))
  d__law_pick : ∃ fd, FunD K "_law_pick" "_law_pick" (defArgs s__law_pick) (defBody s__law_pick) (defScope s__law_pick) [] [] (He.ga K "_law_pick") fd
  g__law_shuffled : mg "_law_shuffled" = some (.ref (He.ga K "_law_shuffled"))
  d__law_shuffled : ∃ fd, FunD K "_law_shuffled" "_law_shuffled" (defArgs s__law_shuffled) (defBody s__law_shuffled) (defScope s__law_shuffled) [] [] (He.ga K "_law_shuffled") fd
  g__law_same : mg "_law_same" = some (.ref (He.ga K "_law_same"))
  d__law_same : ∃ fd, FunD K "_law_same" "_law_same" (defArgs s__law_same) (defBody s__law_same) (defScope s__law_same) [] [] (He.ga K "_law_same") fd
  g__law_copied : mg "_law_copied" = some (.ref (He.ga K "_law_copied"))
  d__law_copied : ∃ fd, FunD K "_law_copied" "_law_copied" (defArgs s__law_copied) (defBody s__law_copied) (defScope s__law_copied) [] [] (He.ga K "_law_copied") fd
  g__law_way_line : mg "_law_way_line" = some (.ref (He.ga K "_law_way_line"))
  d__law_way_line : ∃ fd, FunD K "_law_way_line" "_law_way_line" (defArgs s__law_way_line) (defBody s__law_way_line) (defScope s__law_way_line) [] [] (He.ga K "_law_way_line") fd
  g__law_code_line : mg "_law_code_line" = some (.ref (He.ga K "_law_code_line"))
  d__law_code_line : ∃ fd, FunD K "_law_code_line" "_law_code_line" (defArgs s__law_code_line) (defBody s__law_code_line) (defScope s__law_code_line) [] [] (He.ga K "_law_code_line") fd
  g__law_code_text : mg "_law_code_text" = some (.ref (He.ga K "_law_code_text"))
  d__law_code_text : ∃ fd, FunD K "_law_code_text" "_law_code_text" (defArgs s__law_code_text) (defBody s__law_code_text) (defScope s__law_code_text) [] [] (He.ga K "_law_code_text") fd
  g__law_any_step : mg "_law_any_step" = some (.ref (He.ga K "_law_any_step"))
  d__law_any_step : ∃ fd, FunD K "_law_any_step" "_law_any_step" (defArgs s__law_any_step) (defBody s__law_any_step) (defScope s__law_any_step) [] [] (He.ga K "_law_any_step") fd
  g__law_any_way : mg "_law_any_way" = some (.ref (He.ga K "_law_any_way"))
  d__law_any_way : ∃ fd, FunD K "_law_any_way" "_law_any_way" (defArgs s__law_any_way) (defBody s__law_any_way) (defScope s__law_any_way) [] [] (He.ga K "_law_any_way") fd
  g__law_any_rows : mg "_law_any_rows" = some (.ref (He.ga K "_law_any_rows"))
  d__law_any_rows : ∃ fd, FunD K "_law_any_rows" "_law_any_rows" (defArgs s__law_any_rows) (defBody s__law_any_rows) (defScope s__law_any_rows) [] [] (He.ga K "_law_any_rows") fd
  g__law_odd_row : mg "_law_odd_row" = some (.ref (He.ga K "_law_odd_row"))
  d__law_odd_row : ∃ fd, FunD K "_law_odd_row" "_law_odd_row" (defArgs s__law_odd_row) (defBody s__law_odd_row) (defScope s__law_odd_row) [] [] (He.ga K "_law_odd_row") fd
  g__law_told_fault : mg "_law_told_fault" = some (.ref (He.ga K "_law_told_fault"))
  d__law_told_fault : ∃ fd, FunD K "_law_told_fault" "_law_told_fault" (defArgs s__law_told_fault) (defBody s__law_told_fault) (defScope s__law_told_fault) [] [] (He.ga K "_law_told_fault") fd
  g__law_great : mg "_law_great" = some (.ref (He.ga K "_law_great"))
  d__law_great : ∃ fd, FunD K "_law_great" "_law_great" (defArgs s__law_great) (defBody s__law_great) (defScope s__law_great) [] [] (He.ga K "_law_great") fd
  g__law_drawn : mg "_law_drawn" = some (.ref (He.ga K "_law_drawn"))
  d__law_drawn : ∃ fd, FunD K "_law_drawn" "_law_drawn" (defArgs s__law_drawn) (defBody s__law_drawn) (defScope s__law_drawn) [] [] (He.ga K "_law_drawn") fd
  g__law_read : mg "_law_read" = some (.ref (He.ga K "_law_read"))
  d__law_read : ∃ fd, FunD K "_law_read" "_law_read" (defArgs s__law_read) (defBody s__law_read) (defScope s__law_read) [] [] (He.ga K "_law_read") fd
  g__law_number_words : mg "_law_number_words" = some (.ref (He.ga K "_law_number_words"))
  d__law_number_words : ∃ fd, FunD K "_law_number_words" "_law_number_words" (defArgs s__law_number_words) (defBody s__law_number_words) (defScope s__law_number_words) [] [] (He.ga K "_law_number_words") fd
  g__law_spoilt_line : mg "_law_spoilt_line" = some (.ref (He.ga K "_law_spoilt_line"))
  d__law_spoilt_line : ∃ fd, FunD K "_law_spoilt_line" "_law_spoilt_line" (defArgs s__law_spoilt_line) (defBody s__law_spoilt_line) (defScope s__law_spoilt_line) [] [] (He.ga K "_law_spoilt_line") fd
  g__law_spoilt_text : mg "_law_spoilt_text" = some (.ref (He.ga K "_law_spoilt_text"))
  d__law_spoilt_text : ∃ fd, FunD K "_law_spoilt_text" "_law_spoilt_text" (defArgs s__law_spoilt_text) (defBody s__law_spoilt_text) (defScope s__law_spoilt_text) [] [] (He.ga K "_law_spoilt_text") fd
  g__law_bounds : mg "_law_bounds" = some (.ref (He.ga K "_law_bounds"))
  d__law_bounds : ∃ fd, FunD K "_law_bounds" "_law_bounds" (defArgs s__law_bounds) (defBody s__law_bounds) (defScope s__law_bounds) [] [] (He.ga K "_law_bounds") fd
  g__law_no_text : mg "_law_no_text" = some (.ref (He.ga K "_law_no_text"))
  d__law_no_text : ∃ fd, FunD K "_law_no_text" "_law_no_text" (defArgs s__law_no_text) (defBody s__law_no_text) (defScope s__law_no_text) [] [] (He.ga K "_law_no_text") fd
  g_law : mg "law" = some (.ref (He.ga K "law"))
  d_law : ∃ fd, FunD K "law" "law" (defArgs s_law) (defBody s_law) (defScope s_law) [] [] (He.ga K "law") fd
  g_TooMany : mg "TooMany" = some (.ref (He.ga K "TooMany"))
  e_TooMany : ErrC K "TooMany" (["what"] : List Str)
  d_TooMany : ∃ fd, FunD K "__init__" "TooMany.__init__" (defArgs i_TooMany) (defBody i_TooMany) (defScope i_TooMany) [] [] (He.ma K (He.ga K "TooMany") "__init__") fd
  g_BadText : mg "BadText" = some (.ref (He.ga K "BadText"))
  e_BadText : ErrC K "BadText" (["line"] : List Str)
  d_BadText : ∃ fd, FunD K "__init__" "BadText.__init__" (defArgs i_BadText) (defBody i_BadText) (defScope i_BadText) [] [] (He.ma K (He.ga K "BadText") "__init__") fd
  g_BadFormat : mg "BadFormat" = some (.ref (He.ga K "BadFormat"))
  e_BadFormat : ErrC K "BadFormat" (["line", "what"] : List Str)
  d_BadFormat : ∃ fd, FunD K "__init__" "BadFormat.__init__" (defArgs i_BadFormat) (defBody i_BadFormat) (defScope i_BadFormat) [] [] (He.ma K (He.ga K "BadFormat") "__init__") fd
  g_BadValue : mg "BadValue" = some (.ref (He.ga K "BadValue"))
  e_BadValue : ErrC K "BadValue" (["path", "what"] : List Str)
  d_BadValue : ∃ fd, FunD K "__init__" "BadValue.__init__" (defArgs i_BadValue) (defBody i_BadValue) (defScope i_BadValue) [] [] (He.ma K (He.ga K "BadValue") "__init__") fd
  g_BadShape : mg "BadShape" = some (.ref (He.ga K "BadShape"))
  e_BadShape : ErrC K "BadShape" (["place"] : List Str)
  d_BadShape : ∃ fd, FunD K "__init__" "BadShape.__init__" (defArgs i_BadShape) (defBody i_BadShape) (defScope i_BadShape) [] [] (He.ma K (He.ga K "BadShape") "__init__") fd
  g_BadRow : mg "BadRow" = some (.ref (He.ga K "BadRow"))
  e_BadRow : ErrC K "BadRow" (["what", "place"] : List Str)
  d_BadRow : ∃ fd, FunD K "__init__" "BadRow.__init__" (defArgs i_BadRow) (defBody i_BadRow) (defScope i_BadRow) [] [] (He.ma K (He.ga K "BadRow") "__init__") fd
  g_BadSet : mg "BadSet" = some (.ref (He.ga K "BadSet"))
  e_BadSet : ErrC K "BadSet" (["place", "joint"] : List Str)
  d_BadSet : ∃ fd, FunD K "__init__" "BadSet.__init__" (defArgs i_BadSet) (defBody i_BadSet) (defScope i_BadSet) [] [] (He.ma K (He.ga K "BadSet") "__init__") fd
  g_BadReader : mg "BadReader" = some (.ref (He.ga K "BadReader"))
  e_BadReader : ErrC K "BadReader" (["step", "what"] : List Str)
  d_BadReader : ∃ fd, FunD K "__init__" "BadReader.__init__" (defArgs i_BadReader) (defBody i_BadReader) (defScope i_BadReader) [] [] (He.ma K (He.ga K "BadReader") "__init__") fd
  g_BadLayout : mg "BadLayout" = some (.ref (He.ga K "BadLayout"))
  e_BadLayout : ErrC K "BadLayout" (["what"] : List Str)
  d_BadLayout : ∃ fd, FunD K "__init__" "BadLayout.__init__" (defArgs i_BadLayout) (defBody i_BadLayout) (defScope i_BadLayout) [] [] (He.ma K (He.ga K "BadLayout") "__init__") fd
  g_BadCheck : mg "BadCheck" = some (.ref (He.ga K "BadCheck"))
  e_BadCheck : ErrC K "BadCheck" (["what"] : List Str)
  d_BadCheck : ∃ fd, FunD K "__init__" "BadCheck.__init__" (defArgs i_BadCheck) (defBody i_BadCheck) (defScope i_BadCheck) [] [] (He.ma K (He.ga K "BadCheck") "__init__") fd
  g_BadCode : mg "BadCode" = some (.ref (He.ga K "BadCode"))
  e_BadCode : ErrC K "BadCode" (["row", "what"] : List Str)
  d_BadCode : ∃ fd, FunD K "__init__" "BadCode.__init__" (defArgs i_BadCode) (defBody i_BadCode) (defScope i_BadCode) [] [] (He.ma K (He.ga K "BadCode") "__init__") fd
  g_BadFeed : mg "BadFeed" = some (.ref (He.ga K "BadFeed"))
  e_BadFeed : ErrC K "BadFeed" (["what"] : List Str)
  d_BadFeed : ∃ fd, FunD K "__init__" "BadFeed.__init__" (defArgs i_BadFeed) (defBody i_BadFeed) (defScope i_BadFeed) [] [] (He.ma K (He.ga K "BadFeed") "__init__") fd
  g_BadEdit : mg "BadEdit" = some (.ref (He.ga K "BadEdit"))
  e_BadEdit : ErrC K "BadEdit" (["what"] : List Str)
  d_BadEdit : ∃ fd, FunD K "__init__" "BadEdit.__init__" (defArgs i_BadEdit) (defBody i_BadEdit) (defScope i_BadEdit) [] [] (He.ma K (He.ga K "BadEdit") "__init__") fd
  g_BadPatch : mg "BadPatch" = some (.ref (He.ga K "BadPatch"))
  e_BadPatch : ErrC K "BadPatch" (["row", "what"] : List Str)
  d_BadPatch : ∃ fd, FunD K "__init__" "BadPatch.__init__" (defArgs i_BadPatch) (defBody i_BadPatch) (defScope i_BadPatch) [] [] (He.ma K (He.ga K "BadPatch") "__init__") fd
  g_BadPaper : mg "BadPaper" = some (.ref (He.ga K "BadPaper"))
  e_BadPaper : ErrC K "BadPaper" (["line"] : List Str)
  d_BadPaper : ∃ fd, FunD K "__init__" "BadPaper.__init__" (defArgs i_BadPaper) (defBody i_BadPaper) (defScope i_BadPaper) [] [] (He.ma K (He.ga K "BadPaper") "__init__") fd
  g_BadDeed : mg "BadDeed" = some (.ref (He.ga K "BadDeed"))
  e_BadDeed : ErrC K "BadDeed" (["what"] : List Str)
  d_BadDeed : ∃ fd, FunD K "__init__" "BadDeed.__init__" (defArgs i_BadDeed) (defBody i_BadDeed) (defScope i_BadDeed) [] [] (He.ma K (He.ga K "BadDeed") "__init__") fd
  g_OutsideError : mg "OutsideError" = some (.ref (He.ga K "OutsideError"))
  kits : Kits K "OutsideError" errs
  g_LIMITS : mg "LIMITS" = some (.ref (He.ga K "LIMITS"))
  t_LIMITS : ∀ k i, (k, i) ∈ ([("lines", 300), ("words", 40), ("bears", 3), ("checks", 6), ("letters", 8), ("states", 12), ("forms", 12), ("parts", 8), ("told", 24), ("pick", 6), ("width", 30), ("copies", 7), ("depth", 6), ("versions", 9), ("promises", 20), ("edits", 100), ("number", 1000000000000000000000000000000), ("nested", 60), ("shape", 400), ("elements", 400), ("signs", 4000), ("sets", 64), ("ways", 7), ("asks", 300), ("layout", 400), ("reach", 10000), ("deeds", 200), ("paper", 4000)] : List (Str × Int)) → KDct K w (He.ga K "LIMITS") k (.int i)
  g_ReadCode : mg "ReadCode" = some (.ref (He.ga K "ReadCode"))
  c_ReadCode : Cls K (He.ga K "ReadCode")
  mk_ReadCode : Mk K (He.ga K "ReadCode") (He.ma K (He.ga K "ReadCode") "__init__")
  d_ReadCode___init__ : ∃ fd, FunD K "__init__" "ReadCode.__init__" (defArgs m_ReadCode___init__) (defBody m_ReadCode___init__) (defScope m_ReadCode___init__) [] [] (He.ma K (He.ga K "ReadCode") "__init__") fd
  mt_ReadCode_rows : Meth K (He.ga K "ReadCode") "rows" (He.ma K (He.ga K "ReadCode") "rows")
  d_ReadCode_rows : ∃ fd, FunD K "rows" "ReadCode.rows" (defArgs m_ReadCode_rows) (defBody m_ReadCode_rows) (defScope m_ReadCode_rows) [] [] (He.ma K (He.ga K "ReadCode") "rows") fd
  mt_ReadCode_head : Meth K (He.ga K "ReadCode") "head" (He.ma K (He.ga K "ReadCode") "head")
  d_ReadCode_head : ∃ fd, FunD K "head" "ReadCode.head" (defArgs m_ReadCode_head) (defBody m_ReadCode_head) (defScope m_ReadCode_head) [] [] (He.ma K (He.ga K "ReadCode") "head") fd
  mt_ReadCode_tail : Meth K (He.ga K "ReadCode") "tail" (He.ma K (He.ga K "ReadCode") "tail")
  d_ReadCode_tail : ∃ fd, FunD K "tail" "ReadCode.tail" (defArgs m_ReadCode_tail) (defBody m_ReadCode_tail) (defScope m_ReadCode_tail) [] [] (He.ma K (He.ga K "ReadCode") "tail") fd
  na_ReadCode_own_rows : NoAttr K (He.ga K "ReadCode") "own_rows"
  na_ReadCode_own_head : NoAttr K (He.ga K "ReadCode") "own_head"
  na_ReadCode_own_tail : NoAttr K (He.ga K "ReadCode") "own_tail"
  k_FIGURES : ∃ t, mg "FIGURES" = some (.str "0123456789" t)
  f_ValueError : mg "ValueError" = none
  f_int : mg "int" = none
  f_isinstance : mg "isinstance" = none
  f_list : mg "list" = none
  f_tuple : mg "tuple" = none
  f_range : mg "range" = none
  f_dict : mg "dict" = none
  f_len : mg "len" = none
  f_str : mg "str" = none
  f_abs : mg "abs" = none
  f_all : mg "all" = none
  f_bool : mg "bool" = none
  f_ord : mg "ord" = none
  f_sum : mg "sum" = none
  f_sorted : mg "sorted" = none
def fa : List He.Fa := [.glo "bound", .glo "text_lines", .glo "parts_of", .glo "number_of", .glo "copied", .glo "is_whole", .glo "is_count", .glo "is_kind", .glo "right_step", .glo "right_way", .glo "right_row", .glo "bound_ways", .glo "code_text", .glo "row_line", .glo "code_from", .glo "line_words", .glo "signed_number", .glo "plain_numbers", .glo "row_from", .glo "ways_from", .glo "way_from", .glo "bound_numbers", .glo "_law_source", .glo "_law_pick", .glo "_law_shuffled", .glo "_law_same", .glo "_law_copied", .glo "_law_way_line", .glo "_law_code_line", .glo "_law_code_text", .glo "_law_any_step", .glo "_law_any_way", .glo "_law_any_rows", .glo "_law_odd_row", .glo "_law_told_fault", .glo "_law_great", .glo "_law_drawn", .glo "_law_read", .glo "_law_number_words", .glo "_law_spoilt_line", .glo "_law_spoilt_text", .glo "_law_bounds", .glo "_law_no_text", .glo "law", .glo "TooMany", .glo "BadText", .glo "BadFormat", .glo "BadValue", .glo "BadShape", .glo "BadRow", .glo "BadSet", .glo "BadReader", .glo "BadLayout", .glo "BadCheck", .glo "BadCode", .glo "BadFeed", .glo "BadEdit", .glo "BadPatch", .glo "BadPaper", .glo "BadDeed", .glo "OutsideError", .glo "LIMITS", .free "ValueError", .free "int", .free "isinstance", .free "list", .free "tuple", .free "range", .free "dict", .free "len", .free "str", .free "abs", .free "all", .free "bool", .free "ord", .free "sum", .free "sorted", .glo "ReadCode", .cls "ReadCode", .mkr "ReadCode", .meth "ReadCode" "rows", .meth "ReadCode" "head", .meth "ReadCode" "tail", .noat "ReadCode" "own_rows", .noat "ReadCode" "own_head", .noat "ReadCode" "own_tail", .str "FIGURES" "0123456789"]
def fn : List He.DefD := [⟨("bound", none), "bound", "bound", defArgs s_bound, defBody s_bound, defScope s_bound, [], []⟩,
  ⟨("text_lines", none), "text_lines", "text_lines", defArgs s_text_lines, defBody s_text_lines, defScope s_text_lines, [], []⟩,
  ⟨("parts_of", none), "parts_of", "parts_of", defArgs s_parts_of, defBody s_parts_of, defScope s_parts_of, [], []⟩,
  ⟨("number_of", none), "number_of", "number_of", defArgs s_number_of, defBody s_number_of, defScope s_number_of, [], []⟩,
  ⟨("copied", none), "copied", "copied", defArgs s_copied, defBody s_copied, defScope s_copied, [], []⟩,
  ⟨("is_whole", none), "is_whole", "is_whole", defArgs s_is_whole, defBody s_is_whole, defScope s_is_whole, [], []⟩,
  ⟨("is_count", none), "is_count", "is_count", defArgs s_is_count, defBody s_is_count, defScope s_is_count, [], []⟩,
  ⟨("is_kind", none), "is_kind", "is_kind", defArgs s_is_kind, defBody s_is_kind, defScope s_is_kind, [], []⟩,
  ⟨("right_step", none), "right_step", "right_step", defArgs s_right_step, defBody s_right_step, defScope s_right_step, [], []⟩,
  ⟨("right_way", none), "right_way", "right_way", defArgs s_right_way, defBody s_right_way, defScope s_right_way, [], []⟩,
  ⟨("right_row", none), "right_row", "right_row", defArgs s_right_row, defBody s_right_row, defScope s_right_row, [], []⟩,
  ⟨("bound_ways", none), "bound_ways", "bound_ways", defArgs s_bound_ways, defBody s_bound_ways, defScope s_bound_ways, [], []⟩,
  ⟨("code_text", none), "code_text", "code_text", defArgs s_code_text, defBody s_code_text, defScope s_code_text, [], []⟩,
  ⟨("row_line", none), "row_line", "row_line", defArgs s_row_line, defBody s_row_line, defScope s_row_line, [], []⟩,
  ⟨("code_from", none), "code_from", "code_from", defArgs s_code_from, defBody s_code_from, defScope s_code_from, [], []⟩,
  ⟨("line_words", none), "line_words", "line_words", defArgs s_line_words, defBody s_line_words, defScope s_line_words, [], []⟩,
  ⟨("signed_number", none), "signed_number", "signed_number", defArgs s_signed_number, defBody s_signed_number, defScope s_signed_number, [], []⟩,
  ⟨("plain_numbers", none), "plain_numbers", "plain_numbers", defArgs s_plain_numbers, defBody s_plain_numbers, defScope s_plain_numbers, [], []⟩,
  ⟨("row_from", none), "row_from", "row_from", defArgs s_row_from, defBody s_row_from, defScope s_row_from, [], []⟩,
  ⟨("ways_from", none), "ways_from", "ways_from", defArgs s_ways_from, defBody s_ways_from, defScope s_ways_from, [], []⟩,
  ⟨("way_from", none), "way_from", "way_from", defArgs s_way_from, defBody s_way_from, defScope s_way_from, [], []⟩,
  ⟨("bound_numbers", none), "bound_numbers", "bound_numbers", defArgs s_bound_numbers, defBody s_bound_numbers, defScope s_bound_numbers, [], []⟩,
  ⟨("_law_source", none), "_law_source", "_law_source", defArgs s__law_source, defBody s__law_source, defScope s__law_source, [], []⟩,
  ⟨("_law_pick", none), "_law_pick", "_law_pick", defArgs s__law_pick, defBody s__law_pick, defScope s__law_pick, [], []⟩,
  ⟨("_law_shuffled", none), "_law_shuffled", "_law_shuffled", defArgs s__law_shuffled, defBody s__law_shuffled, defScope s__law_shuffled, [], []⟩,
  ⟨("_law_same", none), "_law_same", "_law_same", defArgs s__law_same, defBody s__law_same, defScope s__law_same, [], []⟩,
  ⟨("_law_copied", none), "_law_copied", "_law_copied", defArgs s__law_copied, defBody s__law_copied, defScope s__law_copied, [], []⟩,
  ⟨("_law_way_line", none), "_law_way_line", "_law_way_line", defArgs s__law_way_line, defBody s__law_way_line, defScope s__law_way_line, [], []⟩,
  ⟨("_law_code_line", none), "_law_code_line", "_law_code_line", defArgs s__law_code_line, defBody s__law_code_line, defScope s__law_code_line, [], []⟩,
  ⟨("_law_code_text", none), "_law_code_text", "_law_code_text", defArgs s__law_code_text, defBody s__law_code_text, defScope s__law_code_text, [], []⟩,
  ⟨("_law_any_step", none), "_law_any_step", "_law_any_step", defArgs s__law_any_step, defBody s__law_any_step, defScope s__law_any_step, [], []⟩,
  ⟨("_law_any_way", none), "_law_any_way", "_law_any_way", defArgs s__law_any_way, defBody s__law_any_way, defScope s__law_any_way, [], []⟩,
  ⟨("_law_any_rows", none), "_law_any_rows", "_law_any_rows", defArgs s__law_any_rows, defBody s__law_any_rows, defScope s__law_any_rows, [], []⟩,
  ⟨("_law_odd_row", none), "_law_odd_row", "_law_odd_row", defArgs s__law_odd_row, defBody s__law_odd_row, defScope s__law_odd_row, [], []⟩,
  ⟨("_law_told_fault", none), "_law_told_fault", "_law_told_fault", defArgs s__law_told_fault, defBody s__law_told_fault, defScope s__law_told_fault, [], []⟩,
  ⟨("_law_great", none), "_law_great", "_law_great", defArgs s__law_great, defBody s__law_great, defScope s__law_great, [], []⟩,
  ⟨("_law_drawn", none), "_law_drawn", "_law_drawn", defArgs s__law_drawn, defBody s__law_drawn, defScope s__law_drawn, [], []⟩,
  ⟨("_law_read", none), "_law_read", "_law_read", defArgs s__law_read, defBody s__law_read, defScope s__law_read, [], []⟩,
  ⟨("_law_number_words", none), "_law_number_words", "_law_number_words", defArgs s__law_number_words, defBody s__law_number_words, defScope s__law_number_words, [], []⟩,
  ⟨("_law_spoilt_line", none), "_law_spoilt_line", "_law_spoilt_line", defArgs s__law_spoilt_line, defBody s__law_spoilt_line, defScope s__law_spoilt_line, [], []⟩,
  ⟨("_law_spoilt_text", none), "_law_spoilt_text", "_law_spoilt_text", defArgs s__law_spoilt_text, defBody s__law_spoilt_text, defScope s__law_spoilt_text, [], []⟩,
  ⟨("_law_bounds", none), "_law_bounds", "_law_bounds", defArgs s__law_bounds, defBody s__law_bounds, defScope s__law_bounds, [], []⟩,
  ⟨("_law_no_text", none), "_law_no_text", "_law_no_text", defArgs s__law_no_text, defBody s__law_no_text, defScope s__law_no_text, [], []⟩,
  ⟨("law", none), "law", "law", defArgs s_law, defBody s_law, defScope s_law, [], []⟩,
  ⟨("TooMany", some "__init__"), "__init__", "TooMany.__init__", defArgs i_TooMany, defBody i_TooMany, defScope i_TooMany, [], []⟩,
  ⟨("BadText", some "__init__"), "__init__", "BadText.__init__", defArgs i_BadText, defBody i_BadText, defScope i_BadText, [], []⟩,
  ⟨("BadFormat", some "__init__"), "__init__", "BadFormat.__init__", defArgs i_BadFormat, defBody i_BadFormat, defScope i_BadFormat, [], []⟩,
  ⟨("BadValue", some "__init__"), "__init__", "BadValue.__init__", defArgs i_BadValue, defBody i_BadValue, defScope i_BadValue, [], []⟩,
  ⟨("BadShape", some "__init__"), "__init__", "BadShape.__init__", defArgs i_BadShape, defBody i_BadShape, defScope i_BadShape, [], []⟩,
  ⟨("BadRow", some "__init__"), "__init__", "BadRow.__init__", defArgs i_BadRow, defBody i_BadRow, defScope i_BadRow, [], []⟩,
  ⟨("BadSet", some "__init__"), "__init__", "BadSet.__init__", defArgs i_BadSet, defBody i_BadSet, defScope i_BadSet, [], []⟩,
  ⟨("BadReader", some "__init__"), "__init__", "BadReader.__init__", defArgs i_BadReader, defBody i_BadReader, defScope i_BadReader, [], []⟩,
  ⟨("BadLayout", some "__init__"), "__init__", "BadLayout.__init__", defArgs i_BadLayout, defBody i_BadLayout, defScope i_BadLayout, [], []⟩,
  ⟨("BadCheck", some "__init__"), "__init__", "BadCheck.__init__", defArgs i_BadCheck, defBody i_BadCheck, defScope i_BadCheck, [], []⟩,
  ⟨("BadCode", some "__init__"), "__init__", "BadCode.__init__", defArgs i_BadCode, defBody i_BadCode, defScope i_BadCode, [], []⟩,
  ⟨("BadFeed", some "__init__"), "__init__", "BadFeed.__init__", defArgs i_BadFeed, defBody i_BadFeed, defScope i_BadFeed, [], []⟩,
  ⟨("BadEdit", some "__init__"), "__init__", "BadEdit.__init__", defArgs i_BadEdit, defBody i_BadEdit, defScope i_BadEdit, [], []⟩,
  ⟨("BadPatch", some "__init__"), "__init__", "BadPatch.__init__", defArgs i_BadPatch, defBody i_BadPatch, defScope i_BadPatch, [], []⟩,
  ⟨("BadPaper", some "__init__"), "__init__", "BadPaper.__init__", defArgs i_BadPaper, defBody i_BadPaper, defScope i_BadPaper, [], []⟩,
  ⟨("BadDeed", some "__init__"), "__init__", "BadDeed.__init__", defArgs i_BadDeed, defBody i_BadDeed, defScope i_BadDeed, [], []⟩,
  ⟨("ReadCode", some "__init__"), "__init__", "ReadCode.__init__", defArgs m_ReadCode___init__, defBody m_ReadCode___init__, defScope m_ReadCode___init__, [], []⟩,
  ⟨("ReadCode", some "rows"), "rows", "ReadCode.rows", defArgs m_ReadCode_rows, defBody m_ReadCode_rows, defScope m_ReadCode_rows, [], []⟩,
  ⟨("ReadCode", some "head"), "head", "ReadCode.head", defArgs m_ReadCode_head, defBody m_ReadCode_head, defScope m_ReadCode_head, [], []⟩,
  ⟨("ReadCode", some "tail"), "tail", "ReadCode.tail", defArgs m_ReadCode_tail, defBody m_ReadCode_tail, defScope m_ReadCode_tail, [], []⟩]
def ts : List He.Tab := [(fun K => He.ga K "LIMITS", (["lines", "words", "bears", "checks", "letters", "states", "forms", "parts", "told", "pick", "width", "copies", "depth", "versions", "promises", "edits", "number", "nested", "shape", "elements", "signs", "sets", "ways", "asks", "layout", "reach", "deeds", "paper"] : List Str))]
def kv_LIMITS : List (Str × Int) := [("lines", 300), ("words", 40), ("bears", 3), ("checks", 6), ("letters", 8), ("states", 12), ("forms", 12), ("parts", 8), ("told", 24), ("pick", 6), ("width", 30), ("copies", 7), ("depth", 6), ("versions", 9), ("promises", 20), ("edits", 100), ("number", 1000000000000000000000000000000), ("nested", 60), ("shape", 400), ("elements", 400), ("signs", 4000), ("sets", 64), ("ways", 7), ("asks", 300), ("layout", 400), ("reach", 10000), ("deeds", 200), ("paper", 4000)]
def exs : List (PySem.W.Frag → Bool) := [fun K => kitsB K "OutsideError" errs, fun K => errB K "TooMany" (["what"] : List Str), fun K => errB K "BadText" (["line"] : List Str), fun K => errB K "BadFormat" (["line", "what"] : List Str), fun K => errB K "BadValue" (["path", "what"] : List Str), fun K => errB K "BadShape" (["place"] : List Str), fun K => errB K "BadRow" (["what", "place"] : List Str), fun K => errB K "BadSet" (["place", "joint"] : List Str), fun K => errB K "BadReader" (["step", "what"] : List Str), fun K => errB K "BadLayout" (["what"] : List Str), fun K => errB K "BadCheck" (["what"] : List Str), fun K => errB K "BadCode" (["row", "what"] : List Str), fun K => errB K "BadFeed" (["what"] : List Str), fun K => errB K "BadEdit" (["what"] : List Str), fun K => errB K "BadPatch" (["row", "what"] : List Str), fun K => errB K "BadPaper" (["line"] : List Str), fun K => errB K "BadDeed" (["what"] : List Str), fun K => tabB K "LIMITS" kv_LIMITS]
def ex (K : PySem.W.Frag) : Bool := exs.all fun f => f K
abbrev R : PySem.W.OpenRow := PySem.W.OpenLaw.row PySem.Challenge.rw_toldoutside_k35_texts_of_codes
def adr : List Addr := PySem.mainGlobals :: List.range 1200
def hk : PySem.W.Hook where
  α := He.AlT × Bool
  obs := fun s => (He.obsT fa fn ts (He.frT s.heap.get? adr), ex (He.frT s.heap.get? adr))
  val := fun w => (He.valT fn ts w, true)
  says := fun w h => ∃ K : PySem.W.Frag, K.In h ∧ He.SaysX fa fn ts [] ex w h K
  of := fun _ _ e => ⟨_, He.frT_in, ⟨congrArg Prod.fst e, congrArg Prod.snd e, (fun p hp => nomatch hp), (fun p hp => nomatch hp), (fun p hp => nomatch hp)⟩⟩
  keeps := fun _ _ _ ⟨K, hK, c⟩ k => ⟨K, PySem.W.Frag.In.keeps hK k, ⟨c.t, c.more, (fun p hp => nomatch hp), (fun p hp => nomatch hp), (fun p hp => nomatch hp)⟩⟩
def ob (s : PySem.W.SharedT) : He.AlT × Bool := (He.obsT fa fn ts (He.frT (HandSHeadRun.getT s) adr), ex (He.frT (HandSHeadRun.getT s) adr))
theorem ob_eq (s : PySem.W.SharedT) : ob s = hk.obs s.abs := by
  have e : HandSHeadRun.getT s = s.abs.heap.get? := funext (HandSHeadRun.getT_eq s)
  unfold ob
  rw [e]
  rfl
def nm0 : List Str := (["OutsideError", "TooMany", "BadText", "BadFormat", "BadValue", "BadShape", "BadRow", "BadSet", "BadReader", "BadLayout", "BadCheck", "BadCode"] : List Str)
def nm1 : List Str := (["BadFeed", "BadEdit", "BadPatch", "BadPaper", "BadDeed", "LIMITS", "bound", "FIGURES", "text_lines", "parts_of", "number_of", "copied"] : List Str)
def nm2 : List Str := (["ReadCode", "is_whole", "is_count", "is_kind", "right_step", "right_way", "right_row", "bound_ways", "code_text", "row_line", "code_from", "line_words"] : List Str)
def nm3 : List Str := (["signed_number", "plain_numbers", "row_from", "ways_from", "way_from", "bound_numbers", "_law_source", "_law_pick", "_law_shuffled", "_law_same", "_law_copied", "_law_way_line"] : List Str)
def nm4 : List Str := (["_law_code_line", "_law_code_text", "_law_any_step", "_law_any_way", "_law_any_rows", "_law_odd_row", "_law_told_fault", "_law_great", "_law_drawn", "_law_read", "_law_number_words", "_law_spoilt_line"] : List Str)
def nm5 : List Str := (["_law_spoilt_text", "_law_bounds", "_law_no_text"] : List Str)
def nms : List Str := nm0 ++ nm1 ++ nm2 ++ nm3 ++ nm4 ++ nm5
theorem run_false (w : World) : HandSHeadRun.RunEq R (PySem.W.view R.prog [69]) hk ob 20000 nms (w.withFollow "special-get-raises" false) := by
  intro os
  kernel_rfl
theorem run_true (w : World) : HandSHeadRun.RunEq R (PySem.W.view R.prog [69]) hk ob 20000 nms (w.withFollow "special-get-raises" true) := by
  intro os
  kernel_rfl
theorem run (w : World) : HandSHeadRun.RunEq R (PySem.W.view R.prog [69]) hk ob 20000 nms w := by
  have h : ∀ b : Bool, HandSHeadRun.RunEq R (PySem.W.view R.prog [69]) hk ob 20000 nms (w.withFollow "special-get-raises" b) := fun b => by
    cases b
    · exact run_false w
    · exact run_true w
  have z := h (w.params.followText "special-get-raises")
  rwa [World.withFollow_self] at z
theorem txt {w : World} {h : Heap} {K : PySem.W.Frag} {mg : Str → Option Value} (X : K.In h) (G : h.Ns mainGlobals mg) (c : He.SaysX fa fn ts [] ex w h K) : Txt w K mg := by
  have D := c.t.d
  have E : ∀ i (f : PySem.W.Frag → Bool), exs[i]? = some f → f K = true := fun i (f : PySem.W.Frag → Bool) e => List.all_eq_true.mp c.more f (List.mem_of_getElem? e)
  refine {
    g_bound := He.glo_ok X G (D.fact 0 (f := .glo "bound") rfl)
    g_text_lines := He.glo_ok X G (D.fact 1 (f := .glo "text_lines") rfl)
    g_parts_of := He.glo_ok X G (D.fact 2 (f := .glo "parts_of") rfl)
    g_number_of := He.glo_ok X G (D.fact 3 (f := .glo "number_of") rfl)
    g_copied := He.glo_ok X G (D.fact 4 (f := .glo "copied") rfl)
    g_is_whole := He.glo_ok X G (D.fact 5 (f := .glo "is_whole") rfl)
    g_is_count := He.glo_ok X G (D.fact 6 (f := .glo "is_count") rfl)
    g_is_kind := He.glo_ok X G (D.fact 7 (f := .glo "is_kind") rfl)
    g_right_step := He.glo_ok X G (D.fact 8 (f := .glo "right_step") rfl)
    g_right_way := He.glo_ok X G (D.fact 9 (f := .glo "right_way") rfl)
    g_right_row := He.glo_ok X G (D.fact 10 (f := .glo "right_row") rfl)
    g_bound_ways := He.glo_ok X G (D.fact 11 (f := .glo "bound_ways") rfl)
    g_code_text := He.glo_ok X G (D.fact 12 (f := .glo "code_text") rfl)
    g_row_line := He.glo_ok X G (D.fact 13 (f := .glo "row_line") rfl)
    g_code_from := He.glo_ok X G (D.fact 14 (f := .glo "code_from") rfl)
    g_line_words := He.glo_ok X G (D.fact 15 (f := .glo "line_words") rfl)
    g_signed_number := He.glo_ok X G (D.fact 16 (f := .glo "signed_number") rfl)
    g_plain_numbers := He.glo_ok X G (D.fact 17 (f := .glo "plain_numbers") rfl)
    g_row_from := He.glo_ok X G (D.fact 18 (f := .glo "row_from") rfl)
    g_ways_from := He.glo_ok X G (D.fact 19 (f := .glo "ways_from") rfl)
    g_way_from := He.glo_ok X G (D.fact 20 (f := .glo "way_from") rfl)
    g_bound_numbers := He.glo_ok X G (D.fact 21 (f := .glo "bound_numbers") rfl)
    g__law_source := He.glo_ok X G (D.fact 22 (f := .glo "_law_source") rfl)
    g__law_pick := He.glo_ok X G (D.fact 23 (f := .glo "_law_pick") rfl)
    g__law_shuffled := He.glo_ok X G (D.fact 24 (f := .glo "_law_shuffled") rfl)
    g__law_same := He.glo_ok X G (D.fact 25 (f := .glo "_law_same") rfl)
    g__law_copied := He.glo_ok X G (D.fact 26 (f := .glo "_law_copied") rfl)
    g__law_way_line := He.glo_ok X G (D.fact 27 (f := .glo "_law_way_line") rfl)
    g__law_code_line := He.glo_ok X G (D.fact 28 (f := .glo "_law_code_line") rfl)
    g__law_code_text := He.glo_ok X G (D.fact 29 (f := .glo "_law_code_text") rfl)
    g__law_any_step := He.glo_ok X G (D.fact 30 (f := .glo "_law_any_step") rfl)
    g__law_any_way := He.glo_ok X G (D.fact 31 (f := .glo "_law_any_way") rfl)
    g__law_any_rows := He.glo_ok X G (D.fact 32 (f := .glo "_law_any_rows") rfl)
    g__law_odd_row := He.glo_ok X G (D.fact 33 (f := .glo "_law_odd_row") rfl)
    g__law_told_fault := He.glo_ok X G (D.fact 34 (f := .glo "_law_told_fault") rfl)
    g__law_great := He.glo_ok X G (D.fact 35 (f := .glo "_law_great") rfl)
    g__law_drawn := He.glo_ok X G (D.fact 36 (f := .glo "_law_drawn") rfl)
    g__law_read := He.glo_ok X G (D.fact 37 (f := .glo "_law_read") rfl)
    g__law_number_words := He.glo_ok X G (D.fact 38 (f := .glo "_law_number_words") rfl)
    g__law_spoilt_line := He.glo_ok X G (D.fact 39 (f := .glo "_law_spoilt_line") rfl)
    g__law_spoilt_text := He.glo_ok X G (D.fact 40 (f := .glo "_law_spoilt_text") rfl)
    g__law_bounds := He.glo_ok X G (D.fact 41 (f := .glo "_law_bounds") rfl)
    g__law_no_text := He.glo_ok X G (D.fact 42 (f := .glo "_law_no_text") rfl)
    g_law := He.glo_ok X G (D.fact 43 (f := .glo "law") rfl)
    g_TooMany := He.glo_ok X G (D.fact 44 (f := .glo "TooMany") rfl)
    g_BadText := He.glo_ok X G (D.fact 45 (f := .glo "BadText") rfl)
    g_BadFormat := He.glo_ok X G (D.fact 46 (f := .glo "BadFormat") rfl)
    g_BadValue := He.glo_ok X G (D.fact 47 (f := .glo "BadValue") rfl)
    g_BadShape := He.glo_ok X G (D.fact 48 (f := .glo "BadShape") rfl)
    g_BadRow := He.glo_ok X G (D.fact 49 (f := .glo "BadRow") rfl)
    g_BadSet := He.glo_ok X G (D.fact 50 (f := .glo "BadSet") rfl)
    g_BadReader := He.glo_ok X G (D.fact 51 (f := .glo "BadReader") rfl)
    g_BadLayout := He.glo_ok X G (D.fact 52 (f := .glo "BadLayout") rfl)
    g_BadCheck := He.glo_ok X G (D.fact 53 (f := .glo "BadCheck") rfl)
    g_BadCode := He.glo_ok X G (D.fact 54 (f := .glo "BadCode") rfl)
    g_BadFeed := He.glo_ok X G (D.fact 55 (f := .glo "BadFeed") rfl)
    g_BadEdit := He.glo_ok X G (D.fact 56 (f := .glo "BadEdit") rfl)
    g_BadPatch := He.glo_ok X G (D.fact 57 (f := .glo "BadPatch") rfl)
    g_BadPaper := He.glo_ok X G (D.fact 58 (f := .glo "BadPaper") rfl)
    g_BadDeed := He.glo_ok X G (D.fact 59 (f := .glo "BadDeed") rfl)
    g_OutsideError := He.glo_ok X G (D.fact 60 (f := .glo "OutsideError") rfl)
    g_LIMITS := He.glo_ok X G (D.fact 61 (f := .glo "LIMITS") rfl)
    f_ValueError := He.free_ok X G (D.fact 62 (f := .free "ValueError") rfl)
    f_int := He.free_ok X G (D.fact 63 (f := .free "int") rfl)
    f_isinstance := He.free_ok X G (D.fact 64 (f := .free "isinstance") rfl)
    f_list := He.free_ok X G (D.fact 65 (f := .free "list") rfl)
    f_tuple := He.free_ok X G (D.fact 66 (f := .free "tuple") rfl)
    f_range := He.free_ok X G (D.fact 67 (f := .free "range") rfl)
    f_dict := He.free_ok X G (D.fact 68 (f := .free "dict") rfl)
    f_len := He.free_ok X G (D.fact 69 (f := .free "len") rfl)
    f_str := He.free_ok X G (D.fact 70 (f := .free "str") rfl)
    f_abs := He.free_ok X G (D.fact 71 (f := .free "abs") rfl)
    f_all := He.free_ok X G (D.fact 72 (f := .free "all") rfl)
    f_bool := He.free_ok X G (D.fact 73 (f := .free "bool") rfl)
    f_ord := He.free_ok X G (D.fact 74 (f := .free "ord") rfl)
    f_sum := He.free_ok X G (D.fact 75 (f := .free "sum") rfl)
    f_sorted := He.free_ok X G (D.fact 76 (f := .free "sorted") rfl)
    d_bound := D.def_ 0 rfl
    d_text_lines := D.def_ 1 rfl
    d_parts_of := D.def_ 2 rfl
    d_number_of := D.def_ 3 rfl
    d_copied := D.def_ 4 rfl
    d_is_whole := D.def_ 5 rfl
    d_is_count := D.def_ 6 rfl
    d_is_kind := D.def_ 7 rfl
    d_right_step := D.def_ 8 rfl
    d_right_way := D.def_ 9 rfl
    d_right_row := D.def_ 10 rfl
    d_bound_ways := D.def_ 11 rfl
    d_code_text := D.def_ 12 rfl
    d_row_line := D.def_ 13 rfl
    d_code_from := D.def_ 14 rfl
    d_line_words := D.def_ 15 rfl
    d_signed_number := D.def_ 16 rfl
    d_plain_numbers := D.def_ 17 rfl
    d_row_from := D.def_ 18 rfl
    d_ways_from := D.def_ 19 rfl
    d_way_from := D.def_ 20 rfl
    d_bound_numbers := D.def_ 21 rfl
    d__law_source := D.def_ 22 rfl
    d__law_pick := D.def_ 23 rfl
    d__law_shuffled := D.def_ 24 rfl
    d__law_same := D.def_ 25 rfl
    d__law_copied := D.def_ 26 rfl
    d__law_way_line := D.def_ 27 rfl
    d__law_code_line := D.def_ 28 rfl
    d__law_code_text := D.def_ 29 rfl
    d__law_any_step := D.def_ 30 rfl
    d__law_any_way := D.def_ 31 rfl
    d__law_any_rows := D.def_ 32 rfl
    d__law_odd_row := D.def_ 33 rfl
    d__law_told_fault := D.def_ 34 rfl
    d__law_great := D.def_ 35 rfl
    d__law_drawn := D.def_ 36 rfl
    d__law_read := D.def_ 37 rfl
    d__law_number_words := D.def_ 38 rfl
    d__law_spoilt_line := D.def_ 39 rfl
    d__law_spoilt_text := D.def_ 40 rfl
    d__law_bounds := D.def_ 41 rfl
    d__law_no_text := D.def_ 42 rfl
    d_law := D.def_ 43 rfl
    d_TooMany := D.def_ 44 rfl
    d_BadText := D.def_ 45 rfl
    d_BadFormat := D.def_ 46 rfl
    d_BadValue := D.def_ 47 rfl
    d_BadShape := D.def_ 48 rfl
    d_BadRow := D.def_ 49 rfl
    d_BadSet := D.def_ 50 rfl
    d_BadReader := D.def_ 51 rfl
    d_BadLayout := D.def_ 52 rfl
    d_BadCheck := D.def_ 53 rfl
    d_BadCode := D.def_ 54 rfl
    d_BadFeed := D.def_ 55 rfl
    d_BadEdit := D.def_ 56 rfl
    d_BadPatch := D.def_ 57 rfl
    d_BadPaper := D.def_ 58 rfl
    d_BadDeed := D.def_ 59 rfl
    g_ReadCode := He.glo_ok X G (D.fact 77 (f := .glo "ReadCode") rfl)
    c_ReadCode := He.cls_ok (D.fact 78 (f := .cls "ReadCode") rfl)
    mk_ReadCode := He.mkr_ok (D.fact 79 (f := .mkr "ReadCode") rfl)
    mt_ReadCode_rows := He.meth_ok (D.fact 80 (f := .meth "ReadCode" "rows") rfl)
    mt_ReadCode_head := He.meth_ok (D.fact 81 (f := .meth "ReadCode" "head") rfl)
    mt_ReadCode_tail := He.meth_ok (D.fact 82 (f := .meth "ReadCode" "tail") rfl)
    na_ReadCode_own_rows := He.noat_ok (D.fact 83 (f := .noat "ReadCode" "own_rows") rfl)
    na_ReadCode_own_head := He.noat_ok (D.fact 84 (f := .noat "ReadCode" "own_head") rfl)
    na_ReadCode_own_tail := He.noat_ok (D.fact 85 (f := .noat "ReadCode" "own_tail") rfl)
    k_FIGURES := He.str_ok X G (D.fact 86 (f := .str "FIGURES" "0123456789") rfl)
    d_ReadCode___init__ := D.def_ 60 rfl
    d_ReadCode_rows := D.def_ 61 rfl
    d_ReadCode_head := D.def_ 62 rfl
    d_ReadCode_tail := D.def_ 63 rfl
    kits := kitsB_ok (E 0 _ rfl)
    e_TooMany := errB_ok (E 1 _ rfl)
    e_BadText := errB_ok (E 2 _ rfl)
    e_BadFormat := errB_ok (E 3 _ rfl)
    e_BadValue := errB_ok (E 4 _ rfl)
    e_BadShape := errB_ok (E 5 _ rfl)
    e_BadRow := errB_ok (E 6 _ rfl)
    e_BadSet := errB_ok (E 7 _ rfl)
    e_BadReader := errB_ok (E 8 _ rfl)
    e_BadLayout := errB_ok (E 9 _ rfl)
    e_BadCheck := errB_ok (E 10 _ rfl)
    e_BadCode := errB_ok (E 11 _ rfl)
    e_BadFeed := errB_ok (E 12 _ rfl)
    e_BadEdit := errB_ok (E 13 _ rfl)
    e_BadPatch := errB_ok (E 14 _ rfl)
    e_BadPaper := errB_ok (E 15 _ rfl)
    e_BadDeed := errB_ok (E 16 _ rfl)
    t_LIMITS := fun k i hq => by
      obtain ⟨es, n, KD⟩ := c.t.tab 0 rfl
      exact tabB_ok (E 17 _ rfl) KD hq }
end K35
open PySem PySem.W PySem.Calls PyProof.Rows in
theorem K35.law_of (k : Nat) (hk : L2.Room k callerA)
    (F : ∀ (w : World) (K : Frag) (mg : PySem.Str → Option Value) (base : Heap), K.In base → base.Ns mainGlobals mg → K35.Txt w K mg → ∀ fd, L2.FunD K "law" "law" (L2.defArgs K35.s_law) (L2.defBody K35.s_law) (L2.defScope K35.s_law) [] [] (He.ga K "law") fd →
      L2.FnOk (PySem.Challenge.rw_toldoutside_k35_texts_of_codes).prog w K mg base (L2N.CX (PySem.Challenge.rw_toldoutside_k35_texts_of_codes).prog w) k (He.ga K "law") fd ["script"] (L3.spLaw K)) : PySem.Challenge.rw_toldoutside_k35_texts_of_codes.Holds := by
  w_on; o_law
  refine HandSHeadRun.head_any (r := OpenLaw.row PySem.Challenge.rw_toldoutside_k35_texts_of_codes) (q := view (OpenLaw.row PySem.Challenge.rw_toldoutside_k35_texts_of_codes).prog [69]) (H := K35.hk) (ob := K35.ob) (M := 20000) (loose := K35.nms) (d := HandSHeadRun.topDef (OpenLaw.row PySem.Challenge.rw_toldoutside_k35_texts_of_codes).prog 69) (kwd := []) K35.ob_eq
    (by kernel_rfl) (fun s => by kernel_rfl) K35.run (by kernel_rfl) (by kernel_rfl) (by kernel_rfl) (by rfl) (by first | assumption | decide +kernel) (by decide +kernel) ⟨rfl, rfl, rfl, rfl, rfl, by decide +kernel⟩ ?hw ?hc
  case hw => w_witness2
  case hc =>
    refine L3.walk_law (l := PySem.Challenge.rw_toldoutside_k35_texts_of_codes) (k := k) rfl (by kernel_rfl) hk ?F
    intro w mg fa h Y G hmg0
    obtain ⟨K, KX, c⟩ := Y
    have hmg : mg ("law" : PySem.Str) = some (.ref fa) := by
      have e : (HandSHeadRun.topDef (OpenLaw.row PySem.Challenge.rw_toldoutside_k35_texts_of_codes).prog 69).name = ("law" : PySem.Str) := by kernel_rfl
      rw [← e]
      exact hmg0
    have T := K35.txt KX G c
    have e := hmg.symm.trans T.g_law
    cases e
    obtain ⟨fd, D⟩ := T.d_law
    have b := L2.FunD.bindsA (ps := ["script"]) D fun _ _ _ _ _ _ us hl => match us, hl with | [_], _ => rfl
    exact ⟨K, fd, KX, fun s v => b s [v] rfl, fun base XB GB => F w K mg base XB GB T fd D⟩
set_option maxRecDepth 100000
set_option maxHeartbeats 4000000
/-! CmO: what is asked without a change: expressions whose value is known, tests whose word is known; the heap only grows. -/
namespace L3
open PySem PySem.Spec PyProof.Rows L2 He
def EV (te : TE) (σ : L2.St) (H : Hp) (v : V) : Prop := ∀ H1, Ext H H1 → ∀ Q : VK, (∀ H', Ext H1 H' → Q v H') → te σ H1 Q
def AV (ta : TA) (σ : L2.St) (H : Hp) (vs : List V) : Prop := ∀ H1, Ext H H1 → ∀ Q : List V → Hp → Prop, (∀ H', Ext H1 H' → Q vs H') → ta σ H1 Q
def TV (c : TT) (σ : L2.St) (H : Hp) (b : Bool) : Prop := ∀ H1, Ext H H1 → ∀ P : Bool → Hp → Prop, (∀ H', Ext H1 H' → P b H') → c σ H1 P
section
variable {K : PySem.W.Frag} {σ : L2.St} {H : Hp} {te ta tb to ti : TE} {c d : TT} {x y v : V} {b b1 b2 : Bool} {D : Ends} {t u : TS}
theorem EV.use {Q : VK} (h : EV te σ H v) (k : ∀ H', Ext H H' → Q v H') : te σ H Q := h H .rfl Q k
theorem EV.ext {H' : Hp} (h : EV te σ H v) (e : Ext H H') : EV te σ H' v := fun H1 e1 => h H1 (e.trans e1)
theorem TV.ext {H' : Hp} (h : TV c σ H b) (e : Ext H H') : TV c σ H' b := fun H1 e1 => h H1 (e.trans e1)
theorem EV.var {i : Nat} (h : σ[i]? = some (some v)) : EV (tVar i) σ H v := fun H1 e1 Q k => ⟨v, h, k _ .rfl⟩
theorem EV.k : EV (tC v) σ H v := fun H1 e1 Q k => k _ .rfl
theorem EV.op {r : R2} (ha : EV ta σ H x) (hb : EV tb σ H y) (h : ∀ H1, Ext H H1 → ∀ Q : VK, (∀ H', Ext H1 H' → Q v H') → r x y H1 Q) : EV (tOp r ta tb) σ H v := fun H1 e1 Q k =>
  ha H1 e1 _ fun H2 e2 => hb H2 (e1.trans e2) _ fun H3 e3 => h H3 ((e1.trans e2).trans e3) Q fun H4 e4 => k H4 ((e2.trans e3).trans e4)
theorem EV.at_ {p : Addr} {xs : List V} {i : Int} (ha : EV ta σ H (.ref p)) (hb : EV tb σ H (.int i)) (hp : Seq K H p xs) (e : atI xs i = some v) : EV (tOp (rAt K) ta tb) σ H v :=
  .op ha hb fun H1 e1 Q k => r_atA (e1.sq hp) e (k _ .rfl)
theorem EV.same (ha : EV ta σ H x) (hb : EV tb σ H y) (hs : scal x y = true) : EV (tOp (rSame K) ta tb) σ H (.bl (decide (x = y))) := .op ha hb fun H1 e1 Q k => r_sameS hs (k _ .rfl)
theorem EV.other (ha : EV ta σ H x) (hb : EV tb σ H y) (hs : scal x y = true) : EV (tOp (rOther K) ta tb) σ H (.bl (!decide (x = y))) := .op ha hb fun H1 e1 Q k => r_otherS hs (k _ .rfl)
theorem EV.sameS {p q : Str} (ha : EV ta σ H (.str p)) (hb : EV tb σ H (.str q)) : EV (tOp (rSame K) ta tb) σ H (.bl (decide (p = q))) := by
  have h := EV.same (K := K) ha hb rfl
  have e : decide (V.str p = V.str q) = decide (p = q) := by by_cases z : p = q <;> simp [z]
  rwa [e] at h
theorem EV.otherS {p q : Str} (ha : EV ta σ H (.str p)) (hb : EV tb σ H (.str q)) : EV (tOp (rOther K) ta tb) σ H (.bl (!decide (p = q))) := by
  have h := EV.other (K := K) ha hb rfl
  have e : decide (V.str p = V.str q) = decide (p = q) := by by_cases z : p = q <;> simp [z]
  rwa [e] at h
theorem EV.sameI {p q : Int} (ha : EV ta σ H (.int p)) (hb : EV tb σ H (.int q)) : EV (tOp (rSame K) ta tb) σ H (.bl (decide (p = q))) := by
  have h := EV.same (K := K) ha hb rfl
  have e : decide (V.int p = V.int q) = decide (p = q) := by by_cases z : p = q <;> simp [z]
  rwa [e] at h
theorem EV.sameN {p : Nat} (q : Nat) (ha : EV ta σ H (.int p)) (hb : EV tb σ H (.int q)) : EV (tOp (rSame K) ta tb) σ H (.bl (decide (p = q))) := by
  have h := EV.sameI (K := K) ha hb
  have e : decide ((p : Int) = (q : Int)) = decide (p = q) := by by_cases z : p = q <;> simp [z]; omega
  rwa [e] at h
theorem EV.otherN {p : Nat} (q : Nat) (ha : EV ta σ H (.int p)) (hb : EV tb σ H (.int q)) : EV (tOp (rOther K) ta tb) σ H (.bl (!decide (p = q))) := by
  have h := EV.other (K := K) ha hb rfl
  have e : decide (V.int (p : Int) = V.int (q : Int)) = decide (p = q) := by by_cases z : p = q <;> simp [z]; omega
  rwa [e] at h
/-- a < b and the like, of ints -/
theorem EV.i0 {f : Int → Int → V} {i j : Int} (ha : EV ta σ H (.int i)) (hb : EV tb σ H (.int j)) : EV (tOp (rI0 f) ta tb) σ H (f i j) := .op ha hb fun H1 e1 Q k => r_I0 (k _ .rfl)
theorem EV.ltN {p : Nat} (q : Nat) (ha : EV ta σ H (.int p)) (hb : EV tb σ H (.int q)) : EV (tOp (rI0 fun i j => .bl (decide (i < j))) ta tb) σ H (.bl (decide (p < q))) := by
  have h := EV.i0 (f := fun i j => .bl (decide (i < j))) ha hb
  have e : decide ((p : Int) < (q : Int)) = decide (p < q) := by by_cases z : p < q <;> simp [z] <;> omega
  rwa [e] at h
theorem EV.gtN {p : Nat} (q : Nat) (ha : EV ta σ H (.int p)) (hb : EV tb σ H (.int q)) : EV (tOp (rI0 fun i j => .bl (decide (j < i))) ta tb) σ H (.bl (decide (q < p))) := by
  have h := EV.i0 (f := fun i j => .bl (decide (j < i))) ha hb
  have e : decide ((q : Int) < (p : Int)) = decide (q < p) := by by_cases z : q < p <;> simp [z] <;> omega
  rwa [e] at h
theorem EV.geN {p : Nat} (q : Nat) (ha : EV ta σ H (.int p)) (hb : EV tb σ H (.int q)) : EV (tOp (rI0 fun i j => .bl (decide (j ≤ i))) ta tb) σ H (.bl (decide (q ≤ p))) := by
  have h := EV.i0 (f := fun i j => .bl (decide (j ≤ i))) ha hb
  have e : decide ((q : Int) ≤ (p : Int)) = decide (q ≤ p) := by by_cases z : q ≤ p <;> simp [z] <;> omega
  rwa [e] at h
theorem EV.plus {i j : Int} (ha : EV ta σ H (.int i)) (hb : EV tb σ H (.int j)) : EV (tOp (rPlus K) ta tb) σ H (.int (i + j)) := .op ha hb fun H1 e1 Q k => r_plusI (k _ .rfl)
theorem EV.plusS {i j : Str} (ha : EV ta σ H (.str i)) (hb : EV tb σ H (.str j)) (hl : i.length + j.length ≤ 16000000) : EV (tOp (rPlus K) ta tb) σ H (.str (i ++ j)) := .op ha hb fun H1 e1 Q k => r_plusS hl (k _ .rfl)
theorem EV.isN (ha : EV ta σ H x) (hb : EV tb σ H .non) : EV (tOp rIsN ta tb) σ H (.bl (decide (x = .non))) := .op ha hb fun H1 e1 Q k => r_isN1 (k _ .rfl)
theorem EV.notN (ha : EV ta σ H x) (hb : EV tb σ H .non) : EV (tOp rNotN ta tb) σ H (.bl (!decide (x = .non))) := .op ha hb fun H1 e1 Q k => r_notN1 (k _ .rfl)
theorem AV.nil : AV tNil σ H [] := fun H1 e1 Q k => k _ .rfl
theorem AV.cons {t : TA} {vs : List V} (ha : EV ta σ H x) (ht : AV t σ H vs) : AV (tCons ta t) σ H (x :: vs) := fun H1 e1 Q k =>
  ha H1 e1 _ fun H2 e2 => ht H2 (e1.trans e2) _ fun H3 e3 => k H3 (e2.trans e3)
theorem EV.cb {r : List V → Hp → VK → Prop} {t : TA} {vs : List V} (ha : AV t σ H vs) (h : ∀ H1, Ext H H1 → ∀ Q : VK, (∀ H', Ext H1 H' → Q v H') → r vs H1 Q) : EV (tCB r t) σ H v := fun H1 e1 Q k =>
  ha H1 e1 _ fun H2 e2 => h H2 (e1.trans e2) Q fun H3 e3 => k H3 (e2.trans e3)
theorem EV.len {p : Addr} {xs : List V} {n : Nat} (ha : EV ta σ H (.ref p)) (hp : Seq K H p xs) (hn : xs.length = n) : EV (tCB (LenS K) (tCons ta tNil)) σ H (.int (n : Nat)) := .cb (.cons ha .nil) fun H1 e1 Q k => r_lenA (e1.sq hp) (by rw [hn]) (k _ .rfl)
theorem EV.lenS {z : Str} (ha : EV ta σ H (.str z)) (hl : z.length ≤ 16000000) : EV (tCB LenT (tCons ta tNil)) σ H (.int (z.length : Nat)) := .cb (.cons ha .nil) fun H1 e1 Q k => r_lenS hl (k _ .rfl)
theorem EV.strI {i : Int} (ha : EV ta σ H (.int i)) (h : i.natAbs.log2 < 1920) : EV (tCB StrS (tCons ta tNil)) σ H (.str (Str.ofString (toString i))) := .cb (.cons ha .nil) fun H1 e1 Q k => r_strI h (k _ .rfl)
theorem EV.strS {z : Str} (ha : EV ta σ H (.str z)) : EV (tCB StrS (tCons ta tNil)) σ H (.str z) := .cb (.cons ha .nil) fun H1 e1 Q k => r_strS (k _ .rfl)
theorem EV.call {sp : Sp} {E : L2.St → XK} {t : TA} {vs : List V} (ha : AV t σ H vs) (h : ∀ H1, Ext H H1 → ∀ Q : VK, (∀ H', Ext H1 H' → Q v H') → sp vs H1 Q (E σ)) : EV (tCallS sp E t) σ H v := fun H1 e1 Q k =>
  ha H1 e1 _ fun H2 e2 => h H2 (e1.trans e2) Q fun H3 e3 => k H3 (e2.trans e3)
theorem TV.test (h : EV te σ H (.bl b)) : TV (tTest te) σ H b := fun H1 e1 P k => h H1 e1 _ fun H2 e2 => ⟨b, rfl, k H2 e2⟩
theorem TV.tB (h : EV te σ H (.bl b)) : TV (L2.tB te) σ H b := fun H1 e1 P k => h H1 e1 _ fun H2 e2 => ⟨b, rfl, k H2 e2⟩
theorem TV.and (hc : TV c σ H b1) (hd : b1 = true → TV d σ H b2) : TV (tAnd c d) σ H (b1 && b2) := fun H1 e1 P k => hc H1 e1 _ fun H2 e2 => by
  cases b1 with
  | true => exact hd rfl H2 (e1.trans e2) _ fun H3 e3 => k H3 (e2.trans e3)
  | false => exact k H2 e2
theorem TV.or (hc : TV c σ H b1) (hd : b1 = false → TV d σ H b2) : TV (tOr c d) σ H (b1 || b2) := fun H1 e1 P k => hc H1 e1 _ fun H2 e2 => by
  cases b1 with
  | true => exact k H2 e2
  | false => exact hd rfl H2 (e1.trans e2) _ fun H3 e3 => k H3 (e2.trans e3)
theorem TV.not (hc : TV c σ H b1) : TV (tNot c) σ H (!b1) := fun H1 e1 P k => hc H1 e1 _ fun H2 e2 => k H2 e2
theorem r_ifV (h : TV c σ H b) (h2 : ∀ H', Ext H H' → if b = true then t D σ H' else u D σ H') : tIfS c t u D σ H := h H .rfl _ h2
/-- x in ('a', 'b'), a tuple written there -/
theorem EV.inT {z : Str} {tt : TA} {ss : List Str} (ha : EV ta σ H (.str z)) (hs : AV tt σ H (ss.map V.str)) (hl : ss.length ≤ 1000) : EV (tOp (rIn K false) ta (tTup tt)) σ H (.bl (decide (z ∈ ss))) := fun H1 e1 Q k =>
  ha H1 e1 _ fun H2 e2 => hs H2 (e1.trans e2) _ fun H3 e3 => show NewT (ss.map V.str) H3 (fun y H2 => rIn K false (V.str z) y H2 Q) from r_newT (by rw [List.length_map]; omega) fun q H4 hq e4 h4 => r_inStr (.inr (sqT h4)) (k H4 ((e2.trans e3).trans e4))
theorem EV.inG {z : Str} {t : Addr} {ss : List Str} (ha : EV ta σ H (.str z)) (hb : EV tb σ H (.ref t)) (ht : Seq K H t (ss.map V.str)) : EV (tOp (rIn K false) ta tb) σ H (.bl (decide (z ∈ ss))) := .op ha hb fun H1 e1 Q k => r_inStr (e1.sq ht) (k _ .rfl)
theorem EV.notInG {z : Str} {t : Addr} {ss : List Str} (ha : EV ta σ H (.str z)) (hb : EV tb σ H (.ref t)) (ht : Seq K H t (ss.map V.str)) : EV (tOp (rIn K true) ta tb) σ H (.bl (!decide (z ∈ ss))) := .op ha hb fun H1 e1 Q k => r_ninStr (e1.sq ht) (k _ .rfl)
end
end L3
set_option maxRecDepth 100000
set_option maxHeartbeats 4000000
/-! CmP: enumerate(t), t a tuple. -/
namespace L3
open PySem PySem.Spec PyProof.Rows L2 He
open Sem (wp)
theorem meets_enum_newT (l : Addr) (items : Array Value) (n : Nat) (dct : Option Addr) (sl : Array (Option Value)) :
    Meets (Builtin.«enumerate.__new__» ⟨[.type "enumerate", .ref l], []⟩) (fun _ R s => s.heap.get? l = some { cls := .type "tuple", dict := dct, data := .seq items n, slots := sl } ∧
      R (.ok (.ret (.ref (s.heap.push { cls := .type "tuple_iterator", data := .fields #[.ref l, .int 0 0] }).objs.size)))
        { s with heap := (s.heap.push { cls := .type "tuple_iterator", data := .fields #[.ref l, .int 0 0] }).push { cls := .type "enumerate", data := .fields #[.none, .bool false, .ref s.heap.objs.size, rawInt 0, .none, .none] } }) :=
  .of_wp fun prog w A R s h => by
    obtain ⟨hp, g, d, tk, os⟩ := s; obtain ⟨hl, h⟩ := h
    have hsub := sub_enumerate
    have hL : Heap.IsTuple (Shared.heap ⟨hp, g, d, tk, os⟩) l items := ⟨_, hl, rfl, n, rfl⟩
    wp_walk using AutoSeq1.wpAny_loadPart' hl
    refine wpAny_stack_any fun st => wpAny_pure ?_
    split
    · rename_i c _ _ _ _ _
      cases (c == Value.type "enumerate")
      · wp_walk using AutoSeq1.wpAny_loadPart' hl, wpAny_pyIter_tuple hL
        exact ⟨_, rfl, h⟩
      · wp_walk using AutoSeq1.wpAny_loadPart' hl, wpAny_pyIter_tuple hL
        exact ⟨_, rfl, h⟩
    · wp_walk using AutoSeq1.wpAny_loadPart' hl, wpAny_pyIter_tuple hL
      exact ⟨_, rfl, h⟩
section
variable {prog : Program} {w : World} {A : Around} {E : Value → Shared → Prop} {s : Shared}
theorem call_enum_tuple {l : Addr} {items : Array Value} {Q : Value → Shared → Prop} (hL : s.heap.IsTuple l items)
    (h : ∀ h', IsEnum h' (s.heap.objs.size + 1) s.heap.objs.size 0 .none → h'.IsTupleIter s.heap.objs.size l 0 → (∀ b o, s.heap.get? b = some o → h'.get? b = some o) → Q (.ref (s.heap.objs.size + 1)) { s with heap := h' }) :
    wpAny (model prog w) A (call (.type "enumerate") [.ref l]) Q E s := by
  obtain ⟨⟨c, dct, dt, sl⟩, hl, hc, n, hd⟩ := hL
  replace hc : c = .type "tuple" := hc
  replace hd : dt = .seq items n := hd
  subst hc hd
  refine callType_new F.called_enumerate (by decide) (F.typeCall_enumerate_1 _) (F.newCall_enumerate_1 _) (fun obj => F.args_object_init_2 obj _) F.entry_enumerate_new
    (meets_enum_newT l items n dct sl) ⟨hl, ?_⟩
  have hz : (s.heap.push { cls := .type "tuple_iterator", data := .fields #[.ref l, .int 0 0] }).objs.size = s.heap.objs.size + 1 := Heap.size_push ..
  show _ ∧ _
  rw [hz]
  have he : IsEnum ((s.heap.push { cls := .type "tuple_iterator", data := .fields #[.ref l, .int 0 0] }).push
      { cls := .type "enumerate", data := .fields #[.none, .bool false, .ref s.heap.objs.size, rawInt 0, .none, .none] }) (s.heap.objs.size + 1) s.heap.objs.size 0 .none := by
    have := Heap.get?_push_size (s.heap.push { cls := .type "tuple_iterator", data := .fields #[.ref l, .int 0 0] })
      (o := { cls := .type "enumerate", data := .fields #[.none, .bool false, .ref s.heap.objs.size, rawInt 0, .none, .none] }) rfl
    rw [hz] at this; exact this
  refine ⟨⟨_, he, rfl⟩, h _ he ⟨_, Heap.get?_push_of_some _ (Heap.get?_push_size _ rfl), rfl, rfl⟩ fun b o x => Heap.get?_push_of_some _ (Heap.get?_push_of_some _ x)⟩
theorem drawsT (hh : A.handled = none) (it a : Addr) (hne : a ≠ it) (items : Array Value) : Draws prog w A it [it, a] items.size (fun i v => items[i]? = some v) (fun i h => h.IsTupleIter it a i ∧ h.IsTuple a items) where
  live := fun i h st => let ⟨o, ho, _⟩ := st.1; ⟨o, ho⟩
  frame := fun i h h' st hk => ⟨st.1.at fun o e => hk it (by simp) o e, st.2.at fun o e => hk a (by simp) o e⟩
  item := fun i s Q E hi st hQ => RZ.nextOf_tuple_item st.1 st.2 (x := items[i]) (by simp [hi]) fun h' hit' hs' => hQ _ h' s.toks (by simp [hi]) ⟨hit', st.2.extBut hs'.extBut hne⟩ hs'
  done := fun s Q E st hE => RZ.nextOf_tuple_end hh st.1 st.2 (by simp) hE
end
/-- the tuple at a, each item in a new pair -/
def IteT (K : PySem.W.Frag) (a : Addr) : It :=
  ⟨fun i H => ∃ (xs : List V) (x : V), SqT K H a xs ∧ xs[i]? = some x, fun i H v H' => ∃ T x, v = .ref T ∧ H T = none ∧ H' = upd H T (.tup [.int (i : Nat), x]) ∧ ∀ xs, SqT K H a xs → xs[i]? = some x, fun i H => ∃ xs : List V, SqT K H a xs ∧ xs.length = i⟩
theorem turn_enumT {P : Program} {w : World} {K : PySem.W.Frag} {elts : List Expr} {kk : Nat} {tpos : Pos} (a e it : Addr) :
    Turn P w K (.Tuple elts kk tpos) (IteT K a) [e, it] e (fun i h => (∃ old, IsEnum h e it ((i : Nat) : Int) old) ∧ h.IsTupleIter it a i ∧ e ≠ it) where
  mem := by simp
  obj := fun i h st b hb => by
    obtain ⟨⟨old, he⟩, ⟨o, ho, hc, hd⟩, _⟩ := st
    have e' : b = e ∨ b = it := by simpa using hb
    rcases e' with z | z
    · rw [z]; exact ⟨_, he, fun v q => nomatch q⟩
    · rw [z]; exact ⟨o, ho, fun v q => by rw [hd] at q; cases q⟩
  keep := fun i h h' st k => let ⟨⟨old, he⟩, hi, hne⟩ := st; ⟨⟨old, k e (by simp) _ he⟩, hi.at fun o q => k it (by simp) o q, hne⟩
  item := by
    intro X hP hw hK hc i pins s σ H E I hf st hg
    subst hP hw hK
    obtain ⟨⟨old, he⟩, hit, hne⟩ := st
    obtain ⟨xs, x, hq, hx⟩ := hg
    obtain ⟨its, rv, p, hz⟩ := I.tuple hq
    have p : s.heap.IsTuple a its.toArray := p
    obtain ⟨u, hu, ru⟩ := rv.get hx
    have hel : e < s.heap.objs.size := Heap.lt_size he
    have hil : it < s.heap.objs.size := by obtain ⟨_, q, _⟩ := hit; exact Heap.lt_size q
    have ai : a ≠ it := fun z => by
      obtain ⟨o, h1, h2, _⟩ := p
      obtain ⟨o', h1', h2', _⟩ := hit
      rw [z, h1'] at h1
      cases h1
      rw [h2'] at h2
      injection h2 with h2
      exact absurd h2 (by decide)
    have ae : e ≠ a := fun z => by
      obtain ⟨o, h1, h2, _⟩ := p
      rw [← z, he] at h1
      cases h1
      injection h2 with h2
      exact absurd h2 (by decide)
    have hlt : i < its.toArray.size := by
      have := (List.getElem?_eq_some_iff.mp hu).1
      simpa using this
    refine wpAny_pyNext_enum_itemD (drawsT (A := X.A.in1) (I.ok.hd hc) it a ai its.toArray) he ⟨hit, p⟩ hlt hne (by simp [hne, ae]) fun x2 h' tk hPx ho hst' hT hsz hk => ?_
    obtain ⟨hit', _⟩ := hst'
    have ex : x2 = u := by
      rw [List.getElem?_toArray] at hPx
      rw [hu] at hPx
      exact (Option.some.inj hPx).symm
    subst ex
    refine ⟨_, rfl, wpAny_letOwnedTupleGo_enum (s := { s with heap := h', toks := tk + 1 }) ho fun h'' he' sb => ?_⟩
    have hT2 : h''.get? s.heap.objs.size = some { cls := .type "tuple", data := .seq #[.int i tk, x2] } := (sb.2 _ (Nat.ne_of_gt hel)).trans hT
    have new : ObjOk X.prog X.w (upd H s.heap.objs.size (.tup [.int (i : Nat), x])) h'' s.heap.objs.size (.tup [.int (i : Nat), x]) :=
      ⟨by show 2 ≤ sizeLine; decide, [.int i tk, x2], .cons ⟨_, rfl⟩ (.cons ru .nil), ⟨_, hT2, rfl, _, rfl⟩⟩
    have I1 : Inv X pins σ (upd H s.heap.objs.size (.tup [.int (i : Nat), x])) { s with heap := h'', toks := tk + 1 } :=
      I.turnedNew (ch := [e, it]) (fun b ob hb q => (sb.2 b (fun z => hb (by simp [z]))).trans (hk b ob (fun z => hb (by simp [z])) (fun z => hb (by simp [z])) q)) hf (Nat.le_refl _) new
    refine ⟨.ref s.heap.objs.size, _, I1, rfl, ⟨_, x, rfl, I.hok.fresh (Nat.le_refl _), rfl, fun ys hy => by rw [I.tuple_inj hy hq]; exact hx⟩, ⟨⟨x2, ?_⟩, hit'.at fun o q => (sb.2 it (Ne.symm hne)).trans q, hne⟩, fun b hb => ?_⟩
    · have e1 : ((i + 1 : Nat) : Int) = (i : Int) + 1 := by omega
      rw [e1]; exact he'
    · have hb' : b < s.heap.objs.size := by
        have e' : b = e ∨ b = it := by simpa using hb
        rcases e' with z | z
        · rw [z]; exact hel
        · rw [z]; exact hil
      rw [upd_ne (Nat.ne_of_lt hb')]
      exact (hf b hb).1
  done := by
    intro X hP hw hK hc i pins s σ H E I hf st hg
    subst hP hw hK
    obtain ⟨⟨old, he⟩, hit, hne⟩ := st
    obtain ⟨xs, hq, hx⟩ := hg
    obtain ⟨its, rv, p, hz⟩ := I.tuple hq
    have p : s.heap.IsTuple a its.toArray := p
    obtain ⟨f0, f1, f2, f3, f4, f5⟩ := hf it (by simp)
    have hl := rv.length
    have ai : a ≠ it := fun z => by
      obtain ⟨o, h1, h2, _⟩ := p
      obtain ⟨o', h1', h2', _⟩ := hit
      rw [z, h1'] at h1
      cases h1
      rw [h2'] at h2
      injection h2 with h2
      exact absurd h2 (by decide)
    have hn : its.toArray.size = i := by rw [List.size_toArray]; omega
    subst hn
    exact wpAny_pyNext_enum_endD (drawsT (A := X.A.in1) (I.ok.hd hc) it a ai its.toArray) he ⟨hit, p⟩ fun h' eb => ⟨rfl, I.turned (t' := s.toks) (fun b o hb q => eb b o hb q) f0 f1 f3 f4 f5⟩
  self := fun A i s Q E st h => let ⟨⟨_, he⟩, _⟩ := st; wpAny_pyIter_enum he h
def iEnumT (K : PySem.W.Frag) (ta : TA) : TI := fun σ H R => ta σ H fun vs H1 => ∃ a xs, vs = [.ref a] ∧ SqT K H1 a xs ∧ R (IteT K a) H1
theorem pi_enumT {X : Cx} {K : PySem.W.Frag} {e : Expr} {ta : TA} {p pos tpos : Pos} {elts : List Expr} {kk : Nat} (hg : Gl X "enumerate") (hm : X.mg "enumerate" = none) (ha : PA X [e] ta) (hs : starEach [e] X.env = [(false, eval e X.env)] := by rfl) (hK : X.K = K := by rfl) :
    PI X (.Tuple elts kk tpos) (.Call (.Name "enumerate" p) [e] [] pos) (iEnumT K ta) := by
  subst hK
  refine ⟨fun pins s σ H R I h => ?_⟩
  refine Call_ (ld_blt I hg hm boot_enumerate (PyProof.Rows.callWith_type1 (thn (ha.run pos pins s σ H _ I h) fun us s1 ⟨vs, H1, I1, r1, q1⟩ => ?_) hs rfl))
  obtain ⟨a, xs, ex, hq, q⟩ := q1
  subst ex
  cases r1 with
  | cons r rr =>
    cases rr
    cases r
    obtain ⟨its, rv, p', hz⟩ := I1.tuple hq
    have p' : s1.heap.IsTuple a its.toArray := p'
    refine call_enum_tuple p' fun h' he hit hk => wpAny_pyIter_enum he ?_
    have I2 : Inv X pins σ H1 { s1 with heap := h' } := I1.kept (t' := s1.toks) hk
    refine ⟨s1.heap.objs.size + 1, [s1.heap.objs.size + 1, s1.heap.objs.size], _, _, H1, rfl, I2, turn_enumT a (s1.heap.objs.size + 1) s1.heap.objs.size, ⟨⟨.none, he⟩, hit, Nat.succ_ne_self _⟩, fun b hb => ?_, q⟩
    have e' : b = s1.heap.objs.size + 1 ∨ b = s1.heap.objs.size := by simpa using hb
    have hle : s1.heap.objs.size ≤ b := by
      rcases e' with z | z
      · rw [z]; exact Nat.le_add_right _ _
      · rw [z]; exact Nat.le_refl _
    exact I1.fpOk hle (I1.hok.fresh hle)
section
variable {K : PySem.W.Frag} {σ : L2.St} {H : Hp} {R : It → Hp → Prop} {ta : TA} {g : TG} {tb : TS} {nx bk ct : L2.St → Hp → Prop} {rt : VK}
def EnR (K : PySem.W.Frag) (vs : List V) (H1 : Hp) (R : It → Hp → Prop) : Prop := ∃ a xs, vs = [.ref a] ∧ SqT K H1 a xs ∧ R (IteT K a) H1
theorem r_iE (k : ta σ H fun vs H1 => EnR K vs H1 R) : iEnumT K ta σ H R := k
theorem r_en {a : Addr} {xs : List V} (h : SqT K H a xs) (k : R (IteT K a) H) : EnR K [.ref a] H R := ⟨a, xs, rfl, h, k⟩
theorem forW_enum {a : Addr} {xs : List V} (Pv : Nat → L2.St → Hp → Prop) (h0 : Pv 0 σ H) (hl : ∀ H', SqT K H' a xs) (hs : ∀ i x σ H T, xs[i]? = some x → Pv i σ H → H T = none → g (.ref T) σ (upd H T (.tup [.int (i : Nat), x])) fun σ2 H2 => tb ⟨Pv (i + 1), rt, nx, Pv (i + 1)⟩ σ2 H2) (hd : ∀ σ H, Pv xs.length σ H → nx σ H) : ForW (IteT K a) g tb ⟨nx, rt, bk, ct⟩ σ H := by
  refine ⟨fun i m σ H => m = xs.length - i ∧ i ≤ xs.length ∧ Pv i σ H, ⟨_, rfl, Nat.zero_le _, h0⟩, ?_⟩
  rintro i m σ H ⟨rfl, hi, p⟩
  by_cases c : i = xs.length
  · exact .inl ⟨⟨xs, hl H, c.symm⟩, hd σ H (by rw [← c]; exact p)⟩
  · have hx : xs[i]? = some xs[i] := List.getElem?_eq_getElem (by omega)
    refine .inr ⟨⟨xs, _, hl H, hx⟩, Pv (i + 1), fun σ' H' p' => ⟨xs.length - (i + 1), by omega, rfl, by omega, p'⟩, ?_⟩
    rintro v H' ⟨T, x, rfl, hT, rfl, hall⟩
    exact hs i x σ H T (hall xs (hl H)) p hT
end
end L3
namespace L3
open PySem PySem.Spec PyProof.Rows L2 He
/-! ### keys of a table of the top -/
def rKdN (K : PySem.W.Frag) (d : Addr) : R2 := fun x y H Q => ∃ (z : Str) (r : Option Value), x = .str z ∧ y = .ref d ∧ PySem.W.nsIn K d z = some r ∧ Q (.bl (!r.isSome)) H
theorem kdNin {X : Cx} {K : PySem.W.Frag} {d : Addr} (h : ∃ es n, KDict K X.w d es n) (hK : X.K = K := by rfl) : OpR X (compareOp .NotIn) (rKdN K d) := by
  subst hK
  exact op_notIn_kd (Classical.choose_spec (Classical.choose_spec h))
theorem r_kdN {K : PySem.W.Frag} {d : Addr} {z : Str} {r : Value} {H : Hp} {Q : VK} (h : PySem.W.nsIn K d z = some (some r)) (k : Q (.bl false) H) : rKdN K d (.str z) (.ref d) H Q := ⟨z, _, rfl, rfl, h, k⟩
theorem r_kdI {K : PySem.W.Frag} {w : World} {d : Addr} {z : Str} {v : V} {H : Hp} {Q : VK} (h : KDct K w d z v) (k : Q v H) : rIxD K w (.ref d) (.str z) H Q := ⟨d, z, v, rfl, rfl, h, k⟩
theorem r_tupL {K : PySem.W.Frag} {p : Addr} {ys : List V} {H : Hp} {Q : VK} (h : SqL K H p ys) (k : ∀ l H', H l = none → Ext H H' → H' l = some (.tup ys) → Q (.ref l) H') : TupS K [.ref p] H Q := ⟨p, ys, rfl, .inl ⟨h, fun l hl => k l _ hl (Ext.new hl) upd_same⟩⟩
theorem r_gtupN {K : PySem.W.Frag} {n : Nat} {t : TGs} {a : Addr} {xs : List V} {σ : L2.St} {H : Hp} {P : L2.St → Hp → Prop} (h : H a = some (.tup xs)) (hn : xs.length = n) (k : t xs σ H P) : gTup K n t (.ref a) σ H P := ⟨a, xs, rfl, sqT h, hn, k⟩
/-- o.f += i -/
theorem r_faug {K : PySem.W.Frag} {σ : L2.St} {H : Hp} {ta tv : TE} {f : Str} {nx bk ct : L2.St → Hp → Prop} {rt : VK} {C a dx : Addr} {fs : List (Str × V)} {i j : Int} (ha : ta σ H = fun Q => Q (.ref a) H) (hv : tv σ H = fun Q => Q (.int j) H) (c : Cls K C) (n : NoAttr K C f) (h : H a = some (.ins C dx fs)) (e : fs.lookup f = some (.int i)) (hl : fs.length < 1000)
    (k : ∀ H', H' a = some (.ins C dx (putF f (.int (i + j)) fs)) → (∀ b, b ≠ a → H' b = H b) → nx σ H') : sFldAug K ta tv rAdd f ⟨nx, rt, bk, ct⟩ σ H := by
  unfold sFldAug
  rw [ha]
  refine ⟨a, C, dx, fs, .int i, rfl, h, c, n, e, ?_⟩
  rw [hv]
  exact ⟨i, j, rfl, rfl, dx, fs, h, hl, k _ upd_same fun b hb => upd_ne hb⟩
theorem var_eq {σ : L2.St} {H : Hp} {i : Nat} {v : V} (h : σ[i]? = some (some v)) : (tVar i σ H : VK → Prop) = fun Q => Q v H := by
  funext Q
  refine propext ⟨fun ⟨w, e, q⟩ => ?_, fun q => ⟨v, h, q⟩⟩
  rw [h] at e
  cases e
  exact q
theorem c_eq {σ : L2.St} {H : Hp} {v : V} : (tC v σ H : VK → Prop) = fun Q => Q v H := rfl
end L3
namespace L3
open PySem PySem.Spec PyProof.Rows L2 He
/-! ### the rules of objects, with the written part named -/
section
variable {X : Cx} {K : PySem.W.Frag}
theorem pe_calMK {k j : Nat} {C m : Str} {ps : List Str} {sp : Sp} {pos apos : Pos} {o e : Expr} {es : List Expr} {ta : TE} {t : TA} {pl : Sem Bool} (cl : Cls X.K (ga X.K C)) (hm : Meth X.K (ga X.K C) m (ma X.K (ga X.K C) m)) (c : CalM X.prog X.w X.K X.mg X.base j C m ps sp) (hr : Room k X.A) (hj : j ≤ k) (ho : PE X o ta) (ha : PA X (e :: es) t)
    (he : eval (.Call (.Attribute o m apos) (e :: es) [] pos) X.env = (do
      let ov ← eval o X.env
      standAt apos.atName
      let (f, first) ← holding [ov] (getMethod ov m pl)
      callWith pos f first (backTo pos (starEach (e :: es) X.env)) (backToKw pos (keywordEach [] X.env))) := by rfl)
    (h2 : starEach (e :: es) X.env = (false, eval e X.env) :: starEach es X.env := by rfl) (hpl : (backTo pos (starEach es X.env)).any (·.1) = false := by rfl) (hK : X.K = K := by rfl) :
    PE X (.Call (.Attribute o m apos) (e :: es) [] pos) (tMeth (ga K C) m sp [] noE ta t) := hK ▸ pe_calM cl hm c hr hj ho ha he h2 hpl
theorem pe_calM0K {k j : Nat} {C m : Str} {ps : List Str} {sp : Sp} {pos apos : Pos} {o : Expr} {ta : TE} {pl : Sem Bool} (cl : Cls X.K (ga X.K C)) (hm : Meth X.K (ga X.K C) m (ma X.K (ga X.K C) m)) (c : CalM X.prog X.w X.K X.mg X.base j C m ps sp) (hr : Room k X.A) (hj : j ≤ k) (ho : PE X o ta)
    (he : eval (.Call (.Attribute o m apos) [] [] pos) X.env = (do
      let ov ← eval o X.env
      standAt apos.atName
      let (f, first) ← holding [ov] (getMethod ov m pl)
      callWith pos f first (backTo pos (starEach [] X.env)) (backToKw pos (keywordEach [] X.env))) := by rfl) (hK : X.K = K := by rfl) :
    PE X (.Call (.Attribute o m apos) [] [] pos) (tMeth (ga K C) m sp [] noE ta tNil) := hK ▸ pe_calM0 cl hm c hr hj ho he
theorem pe_mkGK {k j : Nat} {C : Str} {ps : List Str} {sp : Sp} {p pos : Pos} {e : Expr} {es : List Expr} {t : TA} (M : Mk X.K (ga X.K C) (ma X.K (ga X.K C) "__init__")) (hm : X.mg C = some (.ref (ga X.K C))) (c : CalM X.prog X.w X.K X.mg X.base j C "__init__" ps sp) (hr : Room k X.A) (hj : j + 1 ≤ k) (ha : PA X (e :: es) t)
    (hg : Gl X C := by rfl) (hdb : (C == ("__debug__" : Str)) = false := by decide) (h2 : starEach (e :: es) X.env = (false, eval e X.env) :: starEach es X.env := by rfl) (hpl : (backTo pos (starEach es X.env)).any (·.1) = false := by rfl) (hK : X.K = K := by rfl) :
    PE X (.Call (.Name C p) (e :: es) [] pos) (tMake (ga K C) sp [] noE t) := hK ▸ pe_mkG M hm c hr hj ha hg hdb h2 hpl
theorem pe_fldK {e : Expr} {f : Str} {pos : Pos} {ta : TE} (he : PE X e ta) (hb : attributeBase e f X.env (eval e X.env) = eval e X.env := by rfl) (hK : X.K = K := by rfl) : PE X (.Attribute e f pos) (tFld K ta f) := hK ▸ pe_fld he hb
end
end L3
set_option maxRecDepth 100000
set_option maxHeartbeats 4000000
/-! CmQ: comprehensions of two clauses; lists of which only a property is kept; extend. -/
namespace L3
open PySem PySem.Spec PyProof.Rows L2 He
def In2 (J1 : It) (g1 : TG) (tt1 : TT) (te : TE) (vs1 : List Nat) (σ2 : L2.St) (D : Addr) (Nx : Hp → Prop) (H4 : Hp) : Prop := ∃ W1 : Nat → Nat → Hp → Prop, (∃ m, W1 0 m H4) ∧ ∀ j k H, W1 j k H →
  (J1.stop j H ∧ Nx H) ∨ (J1.go j H ∧ ∃ Nx1 : Hp → Prop, (∀ H', Nx1 H' → ∃ k', k' < k ∧ W1 (j + 1) k' H') ∧ ∀ x H', J1.yld j H x H' → g1 x (wipe σ2 vs1) H' fun σ3 H5 => wipe σ3 vs1 = wipe σ2 vs1 ∧ tt1 σ3 H5 fun b H6 =>
    if b = true then te σ3 H6 fun y H7 => ∃ acc, H7 D = some (.lst acc) ∧ acc.length < sizeLine ∧ Nx1 (upd H7 D (.lst (acc ++ [y]))) else Nx1 H6)
def Lc2W (J : It) (g : TG) (tt : TT) (wi1 : TI) (g1 : TG) (tt1 : TT) (te : TE) (vs vs1 : List Nat) (σ : L2.St) (D : Addr) (Qd : Hp → Prop) (H1 : Hp) : Prop := ∃ W : Nat → Nat → Hp → Prop, (∃ m, W 0 m (upd H1 D (.lst []))) ∧ ∀ i m H, W i m H →
  (J.stop i H ∧ Qd H) ∨ (J.go i H ∧ ∃ Nx : Hp → Prop, (∀ H', Nx H' → ∃ m', m' < m ∧ W (i + 1) m' H') ∧ ∀ x H', J.yld i H x H' → g x (wipe σ vs) H' fun σ2 H2 => wipe σ2 vs = wipe σ vs ∧ tt σ2 H2 fun b H3 =>
    if b = true then wi1 σ2 H3 fun J1 H4 => In2 J1 g1 tt1 te vs1 σ2 D Nx H4 else Nx H3)
section
variable {σ σ2 : L2.St} {H H1 H4 : Hp} {K : PySem.W.Frag} {g g1 : TG} {wi wi1 : TI} {te : TE} {tt tt1 : TT} {vs vs1 : List Nat} {Q : VK} {D a : Addr} {xs : List V} {Qd : Hp → Prop}
theorem r_lc2 (k : wi σ H fun J H1 => ∀ D, H1 D = none → Lc2W J g tt wi1 g1 tt1 te vs vs1 σ D (fun H => Q (.ref D) H) H1) : tLc2 wi g tt wi1 g1 tt1 te vs vs1 σ H Q := k
theorem lc2W_list (Pv : Nat → Hp → Prop) (h0 : Pv 0 (upd H1 D (.lst []))) (hl : ∀ i H, i ≤ xs.length → Pv i H → SqL K H a xs)
    (hs : ∀ i x H, xs[i]? = some x → Pv i H → g x (wipe σ vs) H fun σ2 H2 => wipe σ2 vs = wipe σ vs ∧ tt σ2 H2 fun b H3 =>
      if b = true then wi1 σ2 H3 fun J1 H4 => In2 J1 g1 tt1 te vs1 σ2 D (Pv (i + 1)) H4 else Pv (i + 1) H3) (hd : ∀ H, Pv xs.length H → Qd H) : Lc2W (Itl K a) g tt wi1 g1 tt1 te vs vs1 σ D Qd H1 := by
  refine ⟨fun i m H => m = xs.length - i ∧ i ≤ xs.length ∧ Pv i H, ⟨xs.length, by simp, Nat.zero_le _, h0⟩, ?_⟩
  rintro i m H ⟨rfl, hi, p⟩
  have q := hl i H hi p
  by_cases hlt : i < xs.length
  · refine .inr ⟨⟨xs, xs[i], q, by simp [hlt]⟩, Pv (i + 1), fun H' p' => ⟨xs.length - (i + 1), by omega, rfl, hlt, p'⟩, fun x H' y => ?_⟩
    obtain ⟨e, y⟩ := y
    subst e
    exact hs i x _ (y xs q) p
  · have e : i = xs.length := by omega
    subst e
    exact .inl ⟨⟨xs, q, Nat.le_refl _⟩, hd H p⟩
theorem in2_list (Pv : Nat → Hp → Prop) (h0 : Pv 0 H4) (hl : ∀ i H, i ≤ xs.length → Pv i H → SqL K H a xs)
    (hs : ∀ i x H, xs[i]? = some x → Pv i H → g1 x (wipe σ2 vs1) H fun σ3 H5 => wipe σ3 vs1 = wipe σ2 vs1 ∧ tt1 σ3 H5 fun b H6 =>
      if b = true then te σ3 H6 fun y H7 => ∃ acc, H7 D = some (.lst acc) ∧ acc.length < sizeLine ∧ Pv (i + 1) (upd H7 D (.lst (acc ++ [y]))) else Pv (i + 1) H6) (hd : ∀ H, Pv xs.length H → Qd H) : In2 (Itl K a) g1 tt1 te vs1 σ2 D Qd H4 := by
  refine ⟨fun i m H => m = xs.length - i ∧ i ≤ xs.length ∧ Pv i H, ⟨xs.length, by simp, Nat.zero_le _, h0⟩, ?_⟩
  rintro i m H ⟨rfl, hi, p⟩
  have q := hl i H hi p
  by_cases hlt : i < xs.length
  · refine .inr ⟨⟨xs, xs[i], q, by simp [hlt]⟩, Pv (i + 1), fun H' p' => ⟨xs.length - (i + 1), by omega, rfl, hlt, p'⟩, fun x H' y => ?_⟩
    obtain ⟨e, y⟩ := y
    subst e
    exact hs i x _ (y xs q) p
  · have e : i = xs.length := by omega
    subst e
    exact .inl ⟨⟨xs, q, Nat.le_refl _⟩, hd H p⟩
/-- comprehension over a tuple -/
theorem lcW_tup (Pv : Nat → Hp → Prop) (h0 : Pv 0 (upd H1 D (.lst []))) (hl : ∀ i H, i ≤ xs.length → Pv i H → SqT K H a xs)
    (hs : ∀ i x H, xs[i]? = some x → Pv i H → g x (wipe σ vs) H fun σ2 H2 => wipe σ2 vs = wipe σ vs ∧ tt σ2 H2 fun b H3 =>
      if b = true then te σ2 H3 fun y H4 => ∃ acc, H4 D = some (.lst acc) ∧ acc.length < sizeLine ∧ Pv (i + 1) (upd H4 D (.lst (acc ++ [y]))) else Pv (i + 1) H3) (hd : ∀ H, Pv xs.length H → Qd H) : LcW (Itt K a) g tt te vs σ D Qd H1 := lc_tup Pv h0 hl hs hd
end
/-- a list of which only a property of its values is kept -/
structure LcA (H1 : Hp) (D : Addr) (P : V → Prop) (n : Nat) (H' : Hp) : Prop where
  e : Ext H1 H'
  d : ∃ acc, H' D = some (.lst acc) ∧ acc.length ≤ n ∧ ∀ x ∈ acc, P x
section
variable {H1 H' H4 : Hp} {D : Addr} {P : V → Prop} {n m : Nat} {y : V}
theorem LcA.start (hD : H1 D = none) : LcA H1 D P 0 (upd H1 D (.lst [])) := ⟨Ext.new hD, [], upd_same, Nat.le_refl _, fun x hx => nomatch hx⟩
theorem LcA.push (p : LcA H1 D P n H') (hD : H1 D = none) (hn : n < 100000) (e : Ext H' H4) (hy : P y) : ∃ acc, H4 D = some (.lst acc) ∧ acc.length < sizeLine ∧ LcA H1 D P (n + 1) (upd H4 D (.lst (acc ++ [y]))) := by
  obtain ⟨acc, h1, h2, h3⟩ := p.d
  refine ⟨acc, e _ _ h1, Nat.lt_of_le_of_lt h2 (Nat.lt_of_lt_of_le hn (by decide)), Ext.mut (p.e.trans e) hD, acc ++ [y], upd_same, ?_, ?_⟩
  · rw [List.length_append]
    show acc.length + 1 ≤ n + 1
    omega
  · intro x hx
    rcases List.mem_append.mp hx with hx | hx
    · exact h3 x hx
    · rcases List.mem_cons.mp hx with rfl | hx
      · exact hy
      · cases hx
theorem LcA.skip (p : LcA H1 D P n H') (e : Ext H' H4) (hnm : n ≤ m) : LcA H1 D P m H4 := by
  obtain ⟨acc, h1, h2, h3⟩ := p.d
  exact ⟨p.e.trans e, acc, e _ _ h1, Nat.le_trans h2 hnm, h3⟩
end
/-- xs.extend(zs) -/
theorem r_ext {H : Hp} {Q : VK} {l b : Addr} {xs zs : List V} (h : H l = some (.lst xs)) (hb : H b = some (.lst zs)) (hz : xs.length + zs.length ≤ 100000) (k : ∀ H', H' l = some (.lst (xs ++ zs)) → (∀ b, b ≠ l → H' b = H b) → Q .non H') : rExtend (.ref l) [.ref b] H Q :=
  ⟨l, b, xs, zs, rfl, rfl, h, hb, Nat.le_trans hz (by decide), k _ upd_same fun b hb => upd_ne hb⟩
end L3
set_option maxRecDepth 100000
set_option maxHeartbeats 4000000
/-! CmR: calls without arguments; dicts with texts as keys, written out. -/
namespace L3
open PySem PySem.Spec PyProof.Rows L2 He
section
variable {X : Cx} {W : L2.WX}
theorem pe_cal0 {k j : Nat} {x : Str} {ps : List Str} {sp : Sp} {q pos : Pos} (c : CalG X.prog X.w X.K X.mg X.base j x ps sp) (hr : Room k X.A) (hj : j ≤ k) (hx : ∀ σ, PassesAt (L2N.CX X.prog X.w) X σ (WE W σ)) (hg : Gl X x := by rfl)
    (hdb : (x == ("__debug__" : Str)) = false := by decide) : PE X (.Call (.Name x q) [] [] pos) (tCallS sp (WE W) tNil) := by
  have z : ∃ fd, FnOk X.prog X.w X.K X.mg X.base (L2N.CX X.prog X.w) j (ga X.K x) fd ps sp ∧ Binds X.K fd ps [] := c.ok
  have key := Classical.choose_spec z
  refine ⟨fun pins s σ H Q I h => ?_⟩
  refine wpAny_Call_Name_kw (ld_glob I hg c.g ?_ hdb)
  exact PySem.W.callWith_K0 I.kIn c.kp (run_fnS (us := []) key.1 (hr.mono hj) key.2 (hx σ) I .nil h)
end
section
variable {K : PySem.W.Frag} {σ : L2.St} {H : Hp} {Q : VK} {td ty tv : TE} {trs : List (TE × TE)}
theorem r_dgS {p : Addr} {kvs : List (Key × V)} {s : Str} {v : V} (h : H p = some (.dK kvs)) (e : valV kvs (.inr s) = some v) (k : Q v H) : DG (.ref p) (.str s) H Q := ⟨p, v, rfl, .inl ⟨kvs, .inr s, .inl h, rfl, e.symm⟩, k⟩
theorem r_dinS {p : Addr} {kvs : List (Key × V)} {s : Str} (h : H p = some (.dK kvs)) (k : Q (.bl (valV kvs (.inr s)).isSome) H) : DIn (.str s) (.ref p) H Q := ⟨p, _, rfl, .inl ⟨kvs, .inr s, .inl h, rfl, rfl⟩, k⟩
theorem r_dputS {p : Addr} {kvs : List (Key × V)} {s : Str} {v : V} {P : Hp → Prop} (h : H p = some (.dK kvs)) (hl : kvs.length ≤ 100000) (k : ∀ H', H' p = some (.dK (putK kvs (.inr s) v)) → (∀ b, b ≠ p → H' b = H b) → P H') : DPt v (.ref p) (.str s) H P :=
  ⟨p, _, rfl, .inl ⟨kvs, .inr s, h, rfl, Nat.lt_of_le_of_lt hl (by decide), rfl⟩, k _ upd_same fun b hb => upd_ne hb⟩
def DsF (p : Addr) (Q : VK) (ps : List (V × V)) (H2 : Hp) : Prop := H2 p = some (.dK []) ∧ ∃ kvs : List (Key × V), ps = kvs.map (fun kv => (kV kv.1, kv.2)) ∧ kvs.length ≤ 15 ∧ Q (.ref p) (upd H2 p (.dK (mergeK [] kvs)))
theorem r_dispS (k : ∀ p H0, H p = none → Ext H H0 → H0 p = some (.dK []) → tPairs trs σ H0 (DsF p Q)) : tDisp trs σ H Q := fun p hp => k p _ hp (Ext.new hp) upd_same
theorem r_prC {P : List (V × V) → Hp → Prop} (k : td σ H fun x H1 => ty σ H1 fun y H2 => tPairs trs σ H2 fun ps H3 => P ((x, y) :: ps) H3) : tPairs ((td, ty) :: trs) σ H P := k
theorem r_prN {P : List (V × V) → Hp → Prop} (k : P [] H) : tPairs [] σ H P := k
theorem r_dsF {p : Addr} {ps : List (V × V)} (kvs ks2 : List (Key × V)) (h : H p = some (.dK [])) (e : ps = kvs.map (fun kv => (kV kv.1, kv.2))) (hl : kvs.length ≤ 15) (e2 : mergeK [] kvs = ks2) (k : ∀ H3, H3 p = some (.dK ks2) → (∀ b, b ≠ p → H3 b = H b) → Q (.ref p) H3) : DsF p Q ps H :=
  ⟨h, kvs, e, hl, e2 ▸ k _ upd_same fun b hb => upd_ne hb⟩
end
example (v1 v2 v3 v4 v5 v6 : V) : mergeK [] [(.inr "name", v1), (.inr "bears", v2), (.inr "checks", v3), (.inr "forms", v4), (.inr "fills", v5), (.inr "promises", v6)] = [(.inr "name", v1), (.inr "bears", v2), (.inr "checks", v3), (.inr "forms", v4), (.inr "fills", v5), (.inr "promises", v6)] := rfl
end L3
set_option maxRecDepth 100000
set_option maxHeartbeats 4000000
/-! CmS: d.get(k, x), d[k] += v, ranges that fall, xs.reverse(), not in / in tuples written there. -/
namespace L3
open PySem PySem.Spec PyProof.Rows L2 He
section
variable {K : PySem.W.Frag} {σ : L2.St} {H : Hp} {Q : VK} {td ty tx tv : TE} {ta : TA} {R : It → Hp → Prop} {nx bk ct : L2.St → Hp → Prop} {rt : VK}
def DGo (p : Addr) (y z : V) (H3 : Hp) (Q : VK) : Prop := ∃ o, DGet H3 p y o ∧ Q (o.getD z) H3
def DGa (ty tx : TE) (σ : L2.St) (x : V) (H1 : Hp) (Q : VK) : Prop := ∃ a, x = .ref a ∧ IsD H1 a ∧ ty σ H1 fun y H2 => tx σ H2 fun z H3 => DGo a y z H3 Q
theorem r_get2 (k : td σ H fun x H1 => DGa ty tx σ x H1 Q) : tDGet2 td ty tx σ H Q := k
theorem r_get2S {p : Addr} {kvs : List (Key × V)} (h : H p = some (.dK kvs)) (k : ty σ H fun y H2 => tx σ H2 fun z H3 => DGo p y z H3 Q) : DGa ty tx σ (.ref p) H Q := ⟨p, rfl, .inl ⟨kvs, .inl h⟩, k⟩
theorem r_goS {p : Addr} {kvs : List (Key × V)} {s : Str} {z : V} (h : H p = some (.dK kvs)) (k : Q ((valV kvs (.inr s)).getD z) H) : DGo p (.str s) z H Q := ⟨_, .inl ⟨kvs, .inr s, .inl h, rfl, rfl⟩, k⟩
theorem r_goI {p : Addr} {kvs : List (Key × V)} {i : Int} {z : V} (h : H p = some (.dK kvs)) (k : Q ((valV kvs (.inl i)).getD z) H) : DGo p (.int i) z H Q := ⟨_, .inl ⟨kvs, .inl i, .inl h, rfl, rfl⟩, k⟩
def DG1 (ty : TE) (σ : L2.St) (x : V) (H1 : Hp) (Q : VK) : Prop := ∃ a, x = .ref a ∧ IsD H1 a ∧ ty σ H1 fun y H2 => DGo a y .non H2 Q
theorem r_get1 (k : td σ H fun x H1 => DG1 ty σ x H1 Q) : tDGet1 td ty σ H Q := k
theorem r_get1S {p : Addr} {kvs : List (Key × V)} (h : H p = some (.dK kvs)) (k : ty σ H fun y H2 => DGo p y .non H2 Q) : DG1 ty σ (.ref p) H Q := ⟨p, rfl, .inl ⟨kvs, .inl h⟩, k⟩
/-! d[k] += v -/
def DP2 (a : Addr) (y z : V) (H4 : Hp) (P : Hp → Prop) : Prop := ∃ H5, DPut H4 a y z H5 ∧ P H5
def DAu (tv : TE) (rd : V → V → Hp → VK → Prop) (σ : L2.St) (nx : L2.St → Hp → Prop) (x y : V) (H2 : Hp) : Prop := ∃ a v, x = .ref a ∧ DGet H2 a y (some v) ∧ tv σ H2 fun y2 H3 => rd v y2 H3 fun z H4 => DP2 a y z H4 fun H5 => nx σ H5
theorem r_daug {rd : V → V → Hp → VK → Prop} (k : td σ H fun x H1 => ty σ H1 fun y H2 => DAu tv rd σ nx x y H2) : sDAug td ty tv rd ⟨nx, rt, bk, ct⟩ σ H := k
theorem r_dauS {rd : V → V → Hp → VK → Prop} {p : Addr} {kvs : List (Key × V)} {s : Str} {v : V} (h : H p = some (.dK kvs)) (e : valV kvs (.inr s) = some v) (k : tv σ H fun y2 H3 => rd v y2 H3 fun z H4 => DP2 p (.str s) z H4 fun H5 => nx σ H5) : DAu tv rd σ nx (.ref p) (.str s) H :=
  ⟨p, v, rfl, .inl ⟨kvs, .inr s, .inl h, rfl, e.symm⟩, k⟩
theorem r_dp2S {p : Addr} {kvs : List (Key × V)} {s : Str} {z : V} {P : Hp → Prop} (h : H p = some (.dK kvs)) (hl : kvs.length ≤ 100000) (k : ∀ H', H' p = some (.dK (putK kvs (.inr s) z)) → (∀ b, b ≠ p → H' b = H b) → P H') : DP2 p (.str s) z H P :=
  ⟨_, .inl ⟨kvs, .inr s, h, rfl, Nat.lt_of_le_of_lt hl (by decide), rfl⟩, k _ upd_same fun b hb => upd_ne hb⟩
theorem r_inAdd {i j : Int} (k : Q (.int (i + j)) H) : rAdd (.int i) (.int j) H Q := ⟨i, j, rfl, rfl, k⟩
/-! ranges that fall -/
def Rg3 (vs : List V) (H1 : Hp) (R : It → Hp → Prop) : Prop := ∃ (i j c : Int) (n : Nat), vs = [.int i, .int j, .int c] ∧ RgC i j c n ∧ R (Itc i c n) H1
theorem r_iR3 (k : ta σ H fun vs H1 => Rg3 vs H1 R) : iRng3 ta σ H R := k
theorem r_rg3d {i j c : Int} (ec : c = -1) (h : -(2 ^ 62) ≤ i ∧ i < 2 ^ 62 ∧ -(2 ^ 62) ≤ j ∧ j < 2 ^ 62) (k : R (Itc i (-1) (i - j).toNat) H) : Rg3 [.int i, .int j, .int c] H R := by
  subst ec
  exact ⟨i, j, -1, _, rfl, .neg h.1 h.2.1 h.2.2.1 h.2.2.2, k⟩
theorem forW_rangeC {lo c : Int} {n : Nat} {g : TG} {tb : TS} (Pv : Nat → L2.St → Hp → Prop) (h0 : Pv 0 σ H) (hs : ∀ i σ H, i < n → Pv i σ H → g (.int (lo + (i : Nat) * c)) σ H fun σ2 H2 => tb ⟨Pv (i + 1), rt, nx, Pv (i + 1)⟩ σ2 H2) (hd : ∀ σ H, Pv n σ H → nx σ H) : ForW (Itc lo c n) g tb ⟨nx, rt, bk, ct⟩ σ H :=
  for_rangeC (D := ⟨nx, rt, bk, ct⟩) Pv h0 hs hd
theorem r_revI {l : Addr} {xs : List V} (h : H l = some (.lst xs)) (k : ∀ H', H' l = some (.lst xs.reverse) → (∀ b, b ≠ l → H' b = H b) → Q .non H') : rReverse (.ref l) [] H Q := ⟨l, xs, rfl, rfl, h, k _ upd_same fun b hb => upd_ne hb⟩
/-- unpacking -/
theorem r_gtupA {n : Nat} {t : TGs} {a : Addr} {xs : List V} {P : L2.St → Hp → Prop} (h : SqT K H a xs) (hn : xs.length = n) (k : t xs σ H P) : gTup K n t (.ref a) σ H P := ⟨a, xs, rfl, h, hn, k⟩
end
end L3
set_option maxRecDepth 100000
set_option maxHeartbeats 4000000
/-! CmT: methods that raise; two promises of one function. -/
namespace L3
open PySem PySem.Spec PyProof.Rows L2 He
section
def MethE (C : Addr) (m : Str) (sp : Sp) (E : L2.St → XK) (t : TA) (σ : L2.St) (x : V) (H1 : Hp) (Q : VK) : Prop := ∃ a dx fs, x = .ref a ∧ H1 a = some (.ins C dx fs) ∧ fs.lookup m = none ∧ t σ H1 fun vs H2 => sp (.ref a :: vs) H2 Q (E σ)
def tMethE (C : Addr) (m : Str) (sp : Sp) (E : L2.St → XK) (ta : TE) (t : TA) : TE := fun σ H Q => ta σ H fun x H1 => MethE C m sp E t σ x H1 Q
variable {X : Cx}
theorem pe_calE0 {K : PySem.W.Frag} {k j : Nat} {C m : Str} {ps : List Str} {sp : Sp} {W : WX} {pos apos : Pos} {o : Expr} {ta : TE} {pl : Sem Bool} (cl : Cls X.K (ga X.K C)) (hm : Meth X.K (ga X.K C) m (ma X.K (ga X.K C) m)) (c : CalM X.prog X.w X.K X.mg X.base j C m ps sp) (hr : Room k X.A) (hj : j ≤ k) (hx : ∀ σ, PassesAt (L2N.CX X.prog X.w) X σ (WE W σ)) (ho : PE X o ta)
    (he : eval (.Call (.Attribute o m apos) [] [] pos) X.env = (do
      let ov ← eval o X.env
      standAt apos.atName
      let (f, first) ← holding [ov] (getMethod ov m pl)
      callWith pos f first (backTo pos (starEach [] X.env)) (backToKw pos (keywordEach [] X.env))) := by rfl) (hK : X.K = K := by rfl) :
    PE X (.Call (.Attribute o m apos) [] [] pos) (tMethE (ga K C) m sp (WE W) ta tNil) := by
  subst hK
  have z : ∃ fd, FnOk X.prog X.w X.K X.mg X.base (L2N.CX X.prog X.w) j (ma X.K (ga X.K C) m) fd ps sp ∧ Binds X.K fd ps [] := c.ok
  obtain ⟨fd, F, b⟩ := z
  refine ⟨fun pins s σ H Q I h => ?_⟩
  refine PySem.W.methodCall_KW (pl := pl) (thn (ho.run pins s σ H _ I h) fun u s1 ⟨x, H1, I1, rx, a, dx, fs, ex, ea, l, q⟩ => ?_) he
  subst ex
  obtain rfl : u = Value.ref a := rx
  refine getmeth_ok I1 ea cl hm l ?_
  exact PySem.W.callWith_K0 (first := [.ref a]) I1.kIn hm.kp (run_fnS (us := [.ref a]) (vs := [.ref a]) F (hr.mono hj) b (hx σ) I1 (.cons rfl .nil) q)
end
section
variable {K : PySem.W.Frag} {σ : L2.St} {H : Hp} {Q : VK} {ta : TE} {t : TA} {C : Addr} {m : Str} {sp : Sp} {E : L2.St → XK}
theorem r_methE (k : ta σ H fun x H1 => MethE C m sp E t σ x H1 Q) : tMethE C m sp E ta t σ H Q := k
theorem r_mtE {a dx : Addr} {fs : List (Str × V)} (h : H a = some (.ins C dx fs)) (hl : fs.lookup m = none) (k : t σ H fun vs H2 => sp (.ref a :: vs) H2 Q (E σ)) : MethE C m sp E t σ (.ref a) H Q := ⟨a, dx, fs, rfl, h, hl, k⟩
end
section
variable {X : Cx}
theorem pe_calOr {k j1 j2 : Nat} {x : Str} {ps1 ps2 : List Str} {sp1 sp2 : Sp} {W : WX} {q pos : Pos} {e : Expr} {es : List Expr} {t : TA} (c1 : CalG X.prog X.w X.K X.mg X.base j1 x ps1 sp1) (c2 : CalG X.prog X.w X.K X.mg X.base j2 x ps2 sp2) (hr : Room k X.A) (h1 : j1 ≤ k) (h2 : j2 ≤ k) (hx : ∀ σ, PassesAt (L2N.CX X.prog X.w) X σ (WE W σ)) (ha : PA X (e :: es) t) (hg : Gl X x := by rfl)
    (hdb : (x == ("__debug__" : Str)) = false := by decide) (he : starEach (e :: es) X.env = (false, eval e X.env) :: starEach es X.env := by rfl) (hpl : (backTo pos (starEach es X.env)).any (·.1) = false := by rfl) :
    PE X (.Call (.Name x q) (e :: es) [] pos) (tCallS (fun vs H Q E => sp1 vs H Q E ∨ sp2 vs H Q E) (WE W) t) := by
  have z1 : ∃ fd, FnOk X.prog X.w X.K X.mg X.base (L2N.CX X.prog X.w) j1 (ga X.K x) fd ps1 sp1 ∧ Binds X.K fd ps1 [] := c1.ok
  have z2 : ∃ fd, FnOk X.prog X.w X.K X.mg X.base (L2N.CX X.prog X.w) j2 (ga X.K x) fd ps2 sp2 ∧ Binds X.K fd ps2 [] := c2.ok
  obtain ⟨f1, F1, b1⟩ := z1
  obtain ⟨f2, F2, b2⟩ := z2
  refine ⟨fun pins s σ H Q I h => ?_⟩
  refine wpAny_Call_Name_kw (ld_glob I hg c1.g ?_ hdb)
  refine PySem.W.callWith_K (h₀ := X.base) I.ok.mod.kin c1.kp (thn (ha.run pos pins s σ H _ I h) fun us s1 ⟨vs, H1, I1, r, q⟩ => ⟨I1.kIn, ?_⟩) he hpl
  rcases q with q | q
  · exact run_fnS F1 (hr.mono h1) b1 (hx σ) I1 r q
  · exact run_fnS F2 (hr.mono h2) b2 (hx σ) I1 r q
end
section
variable {K : PySem.W.Frag} {H : Hp} {Q : VK}
/-! lists of strings compared -/
theorem eqvAll_strs : ∀ ns ms : List Str, PyData.eqvAll (ns.map PyData.str) (ms.map PyData.str) = decide (ns = ms)
  | [], [] => by simp [PyData.eqvAll]
  | [], m :: ms => by simp [PyData.eqvAll]
  | n :: ns, [] => by simp [PyData.eqvAll]
  | n :: ns, m :: ms => by
    rw [List.map_cons, List.map_cons]
    have h := eqvAll_strs ns ms
    simp [PyData.eqvAll, PyData.eqv, h]
    by_cases e : n = m <;> simp [e]
theorem lay_strs : ∀ ns : List Str, (∀ x ∈ ns, PyData.strOk x = true) → PyData.canLayAll0 (ns.map PyData.str) = true ∧ PyData.depthAll (ns.map PyData.str) ≤ 63
  | [], _ => by simp [PyData.canLayAll0, PyData.depthAll]
  | n :: ns, hs => by
    have h := lay_strs ns fun x hx => hs x (List.mem_cons_of_mem _ hx)
    have h0 := hs n List.mem_cons_self
    simp [PyData.canLayAll0, PyData.canLay0, PyData.depthAll, PyData.depth, h.1, h0]
    exact h.2
theorem shaped_strs {ns : List Str} (hs : ∀ x ∈ ns, PyData.strOk x = true) : SeqAt.shaped (.list (ns.map PyData.str)) = true := by
  have h := lay_strs ns hs
  simp [SeqAt.shaped, PyData.canLay0, PyData.depth, h.1, h.2]
theorem dps_strs : ∀ ns : List Str, DpAll K H (ns.map V.str) (ns.map PyData.str)
  | [] => .nil
  | n :: ns => .cons (.str n) (dps_strs ns)
theorem r_otherT {a b : Addr} {ns ms : List Str} (h1 : SqL K H a (ns.map V.str)) (h2 : SqL K H b (ms.map V.str)) (hn : ∀ x ∈ ns, PyData.strOk x = true) (hm : ∀ x ∈ ms, PyData.strOk x = true) (k : Q (.bl (!decide (ns = ms))) H) : rOther K (.ref a) (.ref b) H Q :=
  .inr ⟨.list (ns.map PyData.str), .list (ms.map PyData.str), .lst h1 (dps_strs ns), .lst h2 (dps_strs ms), shaped_strs hn, shaped_strs hm, by
    have e : (PyData.list (ns.map PyData.str)).eqv (.list (ms.map PyData.str)) = decide (ns = ms) := by
      rw [← eqvAll_strs]
      simp [PyData.eqv]
    rw [e]
    exact k⟩
end
end L3
set_option maxRecDepth 100000
set_option maxHeartbeats 4000000
/-! CmU: f-strings; isinstance of the handled error with a tuple of classes; a def of any name that tells of it. -/
namespace L3
open PySem PySem.Spec PyProof.Rows L2 He
section
variable {X : Cx} {K : PySem.W.Frag} {σ : L2.St} {H : Hp} {Q : VK}
def JsK (Q : VK) : Str → Hp → Prop := fun out H1 => Q (.str out) H1
def tJoin (ts : List TE) : TE := fun σ H Q => tJs ts Str.empty σ H (JsK Q)
theorem pe_joinedJ {v1 v2 : Expr} {rest : List Expr} {ts : List TE} {pos : Pos} (h : PJ X (v1 :: v2 :: rest) ts) : PE X (.JoinedStr (v1 :: v2 :: rest) pos) (tJoin ts) := pe_joined h
def JsC (ts : List TE) (acc : Str) (σ : L2.St) (P : Str → Hp → Prop) (x : V) (H1 : Hp) : Prop := ∃ y : Str, x = .str y ∧ (acc ++ y).length ≤ sizeLine ∧ tJs ts (acc ++ y) σ H1 P
theorem r_js {ts : List TE} (k : tJs ts Str.empty σ H (JsK Q)) : tJoin ts σ H Q := k
theorem r_jsC {t : TE} {ts : List TE} {acc : Str} {P : Str → Hp → Prop} (k : t σ H fun x H1 => JsC ts acc σ P x H1) : tJs (t :: ts) acc σ H P := k
theorem r_jsS {y : Str} {ts : List TE} {acc : Str} {P : Str → Hp → Prop} (hl : (acc ++ y).length ≤ 16000000) (k : tJs ts (acc ++ y) σ H P) : JsC ts acc σ P (.str y) H := ⟨y, rfl, Nat.le_trans hl (by decide), k⟩
theorem r_jsN {acc : Str} (k : Q (.str acc) H) : tJs [] acc σ H (JsK Q) := k
def FmtR (x : V) (H1 : Hp) (Q : VK) : Prop := (∃ y : Str, x = .str y ∧ y.length ≤ sizeLine ∧ Q (.str y) H1) ∨ ∃ i : Int, x = .int i ∧ i.natAbs.log2 < 1920 ∧ Q (.str (toString i)) H1
theorem r_fmt {te : TE} (k : te σ H fun x H1 => FmtR x H1 Q) : tFmt te σ H Q := k
theorem r_fmtI {i : Int} (h : i.natAbs.log2 < 1920) (k : Q (.str (Str.ofString (toString i))) H) : FmtR (.int i) H Q := .inr ⟨i, rfl, h, k⟩
theorem r_fmtS {y : Str} (h : y.length ≤ 16000000) (k : Q (.str y) H) : FmtR (.str y) H Q := .inl ⟨y, rfl, Nat.le_trans h (by decide), k⟩
theorem r_slX {z : Str} {lo hi : Option Int} (h : z.length ≤ 16000000) (k : Q (.str (Txt.slice z lo hi)) H) : C8.rSlX (.str z) lo hi H Q := ⟨z, rfl, Nat.le_trans h (by decide), k⟩
end
/-- isinstance(e, (C1, C2, ..)), e the pinned error -/
def rIsPT (K : PySem.W.Frag) (D a dd : Addr) : List V → Hp → VK → Prop := fun xs H Q => ∃ (tp : Addr) (cs : List V) (us : List Value) (b : Bool) (fs : List (Str × V)), xs = [.ref a, .ref tp] ∧ H dd = some (.xd fs) ∧ H tp = some (.tup cs) ∧ Paired ClsV cs us ∧ PySem.W.kitAny K (.ref D) us = some b ∧ Q (.bl b) H
theorem call_isPT {X : Cx} {a D dd : Addr} {oe : Obj} (C : ExcC X.K D) (hz : oe.cls = .ref D ∧ oe.dict = some dd) (hf : ∃ vs, oe.data = .fields vs) (hp : (a, oe) ∈ X.pn) : CallR X (.builtin "isinstance") (rIsPT X.K D a dd) := by
  intro pins s σ H xs us Q I r h
  obtain ⟨tp, cs, ws, b, fs, rfl, ed, hT, k, e, q⟩ := h
  cases r with
  | cons rx rr =>
    cases rr with
    | cons rt rr =>
      cases rr
      cases rx
      cases rt
      obtain ⟨hget, _⟩ := I.pin (a, oe) (List.mem_append.mpr (.inl hp))
      have hx : ObjOk X.prog X.w H s.heap dd (.xd fs) := I.hok dd _ ed
      obtain ⟨mA, hns, hr⟩ := hx
      obtain ⟨od, ho, _⟩ := lookIn_ns hns
      obtain ⟨vs, hv⟩ := hf
      have J : PySem.W.InstAt s.heap a oe D (some od) := by
        obtain ⟨oc, odd, oda, osl⟩ := oe
        obtain ⟨h1, h2⟩ := hz
        dsimp only at h1 h2 hv
        subst h1 h2 hv
        exact ⟨hget, rfl, rfl, ho⟩
      obtain ⟨_, its, rv, o, h1, h2, n, h3⟩ := (show ObjOk X.prog X.w H s.heap tp (.tup cs) from I.hok tp _ hT)
      have e3 := ClsV.all k rv
      subst e3
      obtain ⟨oc, od', dt, sl⟩ := o
      simp only at h2 h3
      subst h2 h3
      exact PySem.W.kia_tup (H := fun h => ∃ ox od, PySem.W.InstAt h a ox D (some od)) (PySem.W.errKit C) I.kIn ⟨_, _, J⟩ h1 e (fun z => nomatch z) fun tk => ⟨.bl b, H, I.kept (t' := tk) fun _ _ z => z, rfl, q⟩
section
variable {K : PySem.W.Frag} {H : Hp} {Q : VK}
theorem r_isPT {D a dd tp : Addr} {cs : List V} {us : List Value} {b : Bool} {fs : List (Str × V)} (hd : H dd = some (.xd fs)) (ht : H tp = some (.tup cs)) (hp : Paired ClsV cs us) (hk : PySem.W.kitAny K (.ref D) us = some b) (k : Q (.bl b) H) : rIsPT K D a dd [.ref a, .ref tp] H Q := ⟨tp, cs, us, b, fs, rfl, hd, ht, hp, hk, k⟩
end
structure FaultX (P : Program) (w : World) (K : PySem.W.Frag) (mg : Str → Option Value) (base : Heap) (f : Str) (l : List (Str × List Str)) : Prop where
  g : mg f = some (.ref (ga K f))
  kp : PySem.W.keepIn K (.ref (ga K f)) = true
  ok : ∃ fd, FnP P w K mg base (L2N.CX P w) 1 (ga K f) fd ["error"] (onP (spFlts K l)) ∧ Binds K fd ["error"] []
theorem pe_faultX {X : Cx} {f : Str} {l : List (Str × List Str)} {a : Addr} {oe : Obj} {cls : Value} {d : Option Addr} {q pos : Pos} {e : Expr} {te : TE} (c : FaultX X.prog X.w X.K X.mg X.base f l) (hr : L2H.RoomH 1 X.A) (hz : L2N.Zn cls d oe) (hot : L2H.Hot1 X.A (a, oe)) (hp : (a, oe) ∈ X.pn) (he : PE X e te)
    (hg : Gl X f := by rfl) (hdb : (f == ("__debug__" : Str)) = false := by decide) (h2 : starEach [e] X.env = (false, eval e X.env) :: starEach [] X.env := by rfl) (hpl : (backTo pos (starEach ([] : List Expr) X.env)).any (·.1) = false := by rfl) :
    PE X (.Call (.Name f q) [e] [] pos) (tCallS (spFlts X.K l a cls d) (WE fun _ _ _ _ => False) (tCons te tNil)) := by
  obtain ⟨fd, F, b⟩ := c.ok
  have key := pe_callP (p := (a, oe)) (q := q) (pos := pos) F hr hot hp hg c.g c.kp b passN (pa_cons he pa_nil (hs := h2)) hdb h2 hpl
  obtain ⟨e1, e2, _⟩ := hz
  unfold onP at key
  dsimp only at key
  rw [e1, e2] at key
  exact key
end L3
set_option maxRecDepth 100000
set_option maxHeartbeats 4000000
namespace K35
open PySem PySem.Spec PyProof.Rows L2 L3
local macro_rules | `(tactic| walk_at "s1") => `(tactic| first
  | with_reducible refine r_seq ?_
  | with_reducible refine r_asgN ?_
  | with_reducible refine r_ret ?_
  | with_reducible refine r_next ?_
  | ((with_reducible refine' r_var ?hv ?_); (case hv => exact rfl))
  | with_reducible refine r_c ?_
  | with_reducible refine r_op ?_
  | with_reducible refine r_cons ?_
  | with_reducible refine r_nil ?_
  | with_reducible refine r_plusI ?_
  | with_reducible refine r_I0 ?_
  | with_reducible refine r_test ?_
  | with_reducible refine r_bl ?_
  | with_reducible refine r_ifS ?_
  | with_reducible refine r_cb ?_
  | with_reducible refine r_callS ?_
  | with_reducible refine r_and ?_
  | with_reducible refine r_or ?_
  | with_reducible refine r_not ?_
  | with_reducible refine r_B ?_
  | ((with_reducible refine' r_aug ?hv ?_); (case hv => exact rfl))
  | with_reducible refine r_augS ?_
  | with_reducible refine r_ipI ?_
  | with_reducible refine r_asg ?_
  | with_reducible refine r_sub ?_
  | with_reducible refine r_brk ?_
  | with_reducible refine r_isN1 ?_
  | with_reducible refine r_notN1 ?_
  | with_reducible refine r_intI ?_
  | with_reducible refine r_abs ?_
  | with_reducible refine r_min ?_
  | with_reducible refine r_max ?_
  | ((with_reducible refine' r_mod ?hz ?_); (case hz => omega))
  | ((with_reducible refine' r_pow ?hz ?_); (case hz => exact ⟨by decide, by decide, by decide⟩))
  | ((with_reducible refine' r_rg1 ?hz ?_); (case hz => omega))
  | ((with_reducible refine' r_rg2 ?hz ?_); (case hz => omega))
  | ((with_reducible refine' r_newL ?hz ?_); (case hz => exact Nat.le_of_ble_eq_true rfl))
  | ((with_reducible refine' r_newT ?hz ?_); (case hz => exact Nat.le_of_ble_eq_true rfl))
  | with_reducible refine r_for ?_
  | with_reducible refine r_lc ?_
  | with_reducible refine r_iR1 ?_
  | with_reducible refine r_iR2 ?_
  | with_reducible refine r_iL ?_
  | with_reducible refine r_iT ?_
  | with_reducible refine r_gname ?_
  | with_reducible refine r_gcons ?_
  | with_reducible refine r_gnil ?_
  | with_reducible refine r_yes ?_
  | with_reducible refine r_mkO ?_
  | with_reducible refine r_cont ?_
  | with_reducible refine r_drop ?_
  | with_reducible refine r_retN ?_
  | with_reducible refine r_ifC ?_
  | with_reducible refine r_ifI ?_
  | with_reducible refine r_if ?_
  | with_reducible refine r_un ?_
  | with_reducible refine r_neg ?_
  | with_reducible refine r_andV ?_
  | with_reducible refine r_orV ?_
  | with_reducible refine r_notV ?_
  | with_reducible refine r_tup ?_
  | with_reducible refine r_lst ?_
  | with_reducible refine r_bm ?_
  | with_reducible refine r_bm0 ?_
  | with_reducible refine r_sl ?_
  | with_reducible refine r_chain ?_
  | with_reducible refine r_listDn ?_
  | with_reducible refine r_listRg2 ?_
  | with_reducible refine r_listRg1 ?_
  | with_reducible refine r_revL ?_
  | with_reducible refine r_noPart ?_
  | with_reducible refine r_meth ?_
  | with_reducible refine r_methE ?_
  | with_reducible refine r_js ?_
  | with_reducible refine r_jsC ?_
  | with_reducible refine r_jsN ?_
  | with_reducible refine r_fmt ?_
  | with_reducible refine r_fld ?_
  | with_reducible refine r_sfld ?_
  | with_reducible refine r_make ?_
  | with_reducible refine r_m1 ?_
  | with_reducible refine r_m1s ?_
  | with_reducible refine r_iS ?_
  | with_reducible refine r_iE ?_
  | with_reducible refine r_si ?_
  | with_reducible refine r_strS ?_
  | with_reducible refine r_dgt ?_
  | with_reducible refine r_din ?_
  | with_reducible refine r_dnin ?_
  | with_reducible refine r_dput ?_
  | with_reducible refine r_dnew ?_
  | with_reducible refine r_disp1 ?_
  | with_reducible refine r_lenSet ?_
  | with_reducible refine r_get2 ?_
  | with_reducible refine r_get1 ?_
  | with_reducible refine r_daug ?_
  | with_reducible refine r_iR3 ?_
  | with_reducible refine r_prC ?_
  | with_reducible refine r_prN ?_
  | with_reducible refine r_part ?_
  | with_reducible refine r_int ?_
  | ((with_reducible refine' r_sameS ?hs ?_); (case hs => exact rfl))
  | ((with_reducible refine' r_otherS ?hs ?_); (case hs => exact rfl))
  | with_reducible refine ite_t ?_
  | with_reducible refine ite_f ?_
  | with_reducible refine ite_nt ?_
  | with_reducible refine ite_nf ?_)
local macro_rules | `(tactic| walk_at "st") => `(tactic| repeat (walk_at "s1"))
local macro_rules | `(tactic| walk_at "su") => `(tactic| first
  | with_reducible refine r_seq ?_
  | with_reducible refine r_asgN ?_
  | with_reducible refine r_ret ?_
  | with_reducible refine r_next ?_
  | ((with_reducible refine' r_var ?hv ?_); (case hv => exact rfl))
  | with_reducible refine r_c ?_
  | with_reducible refine r_op ?_
  | with_reducible refine r_cons ?_
  | with_reducible refine r_nil ?_
  | with_reducible refine r_plusI ?_
  | with_reducible refine r_I0 ?_
  | with_reducible refine r_test ?_
  | with_reducible refine r_bl ?_
  | with_reducible refine r_cb ?_
  | with_reducible refine r_callS ?_
  | with_reducible refine r_and ?_
  | with_reducible refine r_or ?_
  | with_reducible refine r_not ?_
  | with_reducible refine r_B ?_
  | ((with_reducible refine' r_aug ?hv ?_); (case hv => exact rfl))
  | with_reducible refine r_augS ?_
  | with_reducible refine r_ipI ?_
  | with_reducible refine r_asg ?_
  | with_reducible refine r_sub ?_
  | with_reducible refine r_brk ?_
  | with_reducible refine r_isN1 ?_
  | with_reducible refine r_notN1 ?_
  | with_reducible refine r_intI ?_
  | with_reducible refine r_abs ?_
  | with_reducible refine r_min ?_
  | with_reducible refine r_max ?_
  | ((with_reducible refine' r_mod ?hz ?_); (case hz => omega))
  | ((with_reducible refine' r_pow ?hz ?_); (case hz => exact ⟨by decide, by decide, by decide⟩))
  | ((with_reducible refine' r_rg1 ?hz ?_); (case hz => omega))
  | ((with_reducible refine' r_rg2 ?hz ?_); (case hz => omega))
  | ((with_reducible refine' r_newL ?hz ?_); (case hz => exact Nat.le_of_ble_eq_true rfl))
  | ((with_reducible refine' r_newT ?hz ?_); (case hz => exact Nat.le_of_ble_eq_true rfl))
  | with_reducible refine r_for ?_
  | with_reducible refine r_lc ?_
  | with_reducible refine r_iR1 ?_
  | with_reducible refine r_iR2 ?_
  | with_reducible refine r_iL ?_
  | with_reducible refine r_iT ?_
  | with_reducible refine r_gname ?_
  | with_reducible refine r_gcons ?_
  | with_reducible refine r_gnil ?_
  | with_reducible refine r_yes ?_
  | with_reducible refine r_mkO ?_
  | with_reducible refine r_cont ?_
  | with_reducible refine r_drop ?_
  | with_reducible refine r_retN ?_
  | with_reducible refine r_ifC ?_
  | with_reducible refine r_ifI ?_
  | with_reducible refine r_if ?_
  | with_reducible refine r_un ?_
  | with_reducible refine r_neg ?_
  | with_reducible refine r_andV ?_
  | with_reducible refine r_orV ?_
  | with_reducible refine r_notV ?_
  | with_reducible refine r_tup ?_
  | with_reducible refine r_lst ?_
  | with_reducible refine r_bm ?_
  | with_reducible refine r_bm0 ?_
  | with_reducible refine r_sl ?_
  | with_reducible refine r_chain ?_
  | with_reducible refine r_listDn ?_
  | with_reducible refine r_listRg2 ?_
  | with_reducible refine r_listRg1 ?_
  | with_reducible refine r_revL ?_
  | with_reducible refine r_noPart ?_
  | with_reducible refine r_meth ?_
  | with_reducible refine r_methE ?_
  | with_reducible refine r_js ?_
  | with_reducible refine r_jsC ?_
  | with_reducible refine r_jsN ?_
  | with_reducible refine r_fmt ?_
  | with_reducible refine r_fld ?_
  | with_reducible refine r_sfld ?_
  | with_reducible refine r_make ?_
  | with_reducible refine r_m1 ?_
  | with_reducible refine r_m1s ?_
  | with_reducible refine r_iS ?_
  | with_reducible refine r_iE ?_
  | with_reducible refine r_si ?_
  | with_reducible refine r_strS ?_
  | with_reducible refine r_dgt ?_
  | with_reducible refine r_din ?_
  | with_reducible refine r_dnin ?_
  | with_reducible refine r_dput ?_
  | with_reducible refine r_dnew ?_
  | with_reducible refine r_disp1 ?_
  | with_reducible refine r_lenSet ?_
  | with_reducible refine r_get2 ?_
  | with_reducible refine r_get1 ?_
  | with_reducible refine r_daug ?_
  | with_reducible refine r_iR3 ?_
  | with_reducible refine r_prC ?_
  | with_reducible refine r_prN ?_
  | with_reducible refine r_part ?_
  | with_reducible refine r_int ?_
  | ((with_reducible refine' r_sameS ?hs ?_); (case hs => exact rfl))
  | ((with_reducible refine' r_otherS ?hs ?_); (case hs => exact rfl))
  | with_reducible refine ite_t ?_
  | with_reducible refine ite_f ?_
  | with_reducible refine ite_nt ?_
  | with_reducible refine ite_nf ?_)
local macro_rules | `(tactic| walk_at "sv") => `(tactic| repeat (walk_at "su"))

section
variable {P : Program} {w : World} {K : PySem.W.Frag} {mg : Str → Option Value} {base : Heap}
/-! ### lines, words, numbers, names -/
def okC (c : Nat) : Bool := decide (32 ≤ c) && decide (c ≤ 126)
def sp1 : Str := " "
def partsF (x : Str) : Option (List Str) := if (x.cps.toList.all okC && !decide ((Str.ofString "") ∈ Txt.split x sp1)) = true then some (Txt.split x sp1) else none
def spLines (K : PySem.W.Frag) : Sp := fun vs H Q _ => ∃ x : Str, vs = [.str x] ∧ x.length ≤ 1000000 ∧ ∀ q H', H q = none → Ext H H' → H' q = some (.lst ((Txt.split x "\n").map V.str)) → Q (.ref q) H'
theorem sc_text_lines : FnScope ["text"] ["text"] (defScope s_text_lines) := ⟨rfl, rfl, rfl, by decide +kernel, rfl, by decide +kernel, by decide +kernel⟩
theorem ok_text_lines (T : Txt w K mg) : CalG P w K mg base 1 "text_lines" ["text"] (spLines K) := by
  refine calG_of T.g_text_lines T.d_text_lines sc_text_lines (fun _ _ _ _ _ _ _ us hl => match us, hl with | [_], _ => rfl) (fun vs H Q E h => by obtain ⟨_, rfl, _⟩ := h; rfl) (fun cdv A outer s H vs Q E hr h => ?_)
  have nd := sc_text_lines.nd
  have hu := hu64 hr
  obtain ⟨x, rfl, hl, k⟩ := h
  refine ⟨_, (pss_one (ps_ret (pe_splitK (pv 0) pe_str))), ?_⟩
  walk_at "st"
  exact r_split rfl (by omega) k
def spParts (K : PySem.W.Frag) : Sp := fun vs H Q _ => ∃ x : Str, vs = [.str x] ∧ x.length ≤ 1000000 ∧ (∀ ws, partsF x = some ws → ∀ q H', H q = none → Ext H H' → H' q = some (.lst (ws.map V.str)) → Q (.ref q) H') ∧ (partsF x = none → ∀ H', Ext H H' → Q .non H')
theorem sc_parts_of : FnScope ["line", "sign", "words", "word"] ["line"] (defScope s_parts_of) := ⟨rfl, rfl, rfl, by decide +kernel, rfl, by decide +kernel, by decide +kernel⟩
theorem ok_parts_of (T : Txt w K mg) : CalG P w K mg base 1 "parts_of" ["line"] (spParts K) := by
  refine calG_of T.g_parts_of T.d_parts_of sc_parts_of (fun _ _ _ _ _ _ _ us hl => match us, hl with | [_], _ => rfl) (fun vs H Q E h => by obtain ⟨_, rfl, _⟩ := h; rfl) (fun cdv A outer s H vs Q E hr h => ?_)
  have nd := sc_parts_of.nd
  have hu := hu64 hr
  obtain ⟨x, rfl, hl, k, kn⟩ := h
  refine ⟨_, (pss_cons (ps_for (passes_of rfl) rfl (pi_str (pv 0)) (pg_name (i := 1) nd rfl (Or.inl rfl)) (pss_one (ps_if (PW.pt (pw_or (pt_cmpR op_lt (pe_callB cr_ord (by rfl) T.f_ord (by decide +kernel) (pa_cons (pv 1) pa_nil)) pe_int (nomark _)) (pw_or1 (pt_cmpR op_gt (pe_callB cr_ord (by rfl) T.f_ord (by decide +kernel) (pa_cons (pv 1) pa_nil)) pe_int (nomark _))))) (pss_one (ps_ret pe_non)) pss_nil)))
        (pss_cons (ps_set (i := 2) nd rfl (Or.inl rfl) (pe_splitK (pv 0) pe_str))
        (pss_cons (ps_for (passes_of rfl) rfl (piL (K := K) (pv 2)) (pg_name (i := 3) nd rfl (Or.inl rfl)) (pss_one (ps_if (pt_cmpR (sameK (K := K) hu) (pv 3) pe_str (nomark _)) (pss_one (ps_ret pe_non)) pss_nil)))
        (pss_one (ps_ret (pv 2)))))), ?_⟩
  walk_at "st"
  refine forW_str (fun i σ' H' => ∃ v, σ' = [some (.str x), v, none, none] ∧ H = H' ∧ ∀ c ∈ x.cps.toList.take i, okC c = true) ⟨none, rfl, rfl, fun c h => by rw [List.take_zero] at h; cases h⟩ ?_ ?_
  · rintro i c σ' H' hc ⟨v, rfl, rfl, hall⟩
    walk_at "st"
    refine r_ord ?_
    walk_at "st"
    have no : ¬ okC c = true → partsF x = none := fun h => by
      unfold partsF
      rw [if_neg]
      intro z
      rw [Bool.and_eq_true] at z
      exact h (List.all_eq_true.mp z.1 c (List.mem_of_getElem? hc))
    refine ite_d (fun c1 => ?_) (fun c1 => ?_)
    · walk_at "st"
      exact kn (no (by unfold okC; rw [Bool.and_eq_true, decide_eq_true_iff, decide_eq_true_iff]; omega)) H .rfl
    · walk_at "st"
      refine r_ord ?_
      walk_at "st"
      refine ite_d (fun c2 => ?_) (fun c2 => ?_)
      · walk_at "st"
        exact kn (no (by unfold okC; rw [Bool.and_eq_true, decide_eq_true_iff, decide_eq_true_iff]; omega)) H .rfl
      · walk_at "st"
        refine ⟨_, rfl, rfl, fun d hd => ?_⟩
        rw [List.take_succ, hc] at hd
        rcases List.mem_append.mp hd with hd | hd
        · exact hall d hd
        · have e : d = c := by simpa using hd
          rw [e]
          unfold okC
          rw [Bool.and_eq_true, decide_eq_true_iff, decide_eq_true_iff]
          omega
  rintro σ' H' ⟨v, rfl, rfl, hall⟩
  rw [List.take_of_length_le (by rw [Array.length_toList]; exact Nat.le_refl _)] at hall
  have hall : x.cps.toList.all okC = true := List.all_eq_true.mpr hall
  walk_at "st"
  refine r_split rfl (by omega) (fun q H1 hq e1 h1 => ?_)
  walk_at "st"
  refine r_li (sqL h1) ?_
  refine forW_list (fun i σ' H' => ∃ v3, σ' = [some (.str x), v, some (.ref q), v3] ∧ H1 = H' ∧ Str.ofString "" ∉ (Txt.split x sp1).take i) ⟨none, rfl, rfl, fun h => by rw [List.take_zero] at h; cases h⟩ (fun i σ' H' _ ⟨_, _, e, _⟩ => e ▸ sqL h1) ?_ ?_
  · rintro i y σ' H' hy ⟨v3, rfl, rfl, hno⟩
    rw [List.getElem?_map] at hy
    obtain ⟨z, hz, rfl⟩ := Option.map_eq_some_iff.mp hy
    walk_at "st"
    refine ite_d (fun c => ?_) (fun c => ?_)
    · walk_at "st"
      refine kn ?_ H1 e1
      unfold partsF
      rw [if_neg]
      intro h
      rw [Bool.and_eq_true, Bool.not_eq_true', decide_eq_false_iff_not] at h
      refine h.2 ?_
      have e : z = Str.ofString "" := V.str.inj c
      rw [← e]
      exact List.mem_of_getElem? hz
    · walk_at "st"
      refine ⟨_, rfl, rfl, fun h => ?_⟩
      have hz' : (Txt.split x sp1)[i]? = some z := hz
      rw [List.take_succ, hz'] at h
      rcases List.mem_append.mp h with h | h
      · exact hno h
      · have e : Str.ofString "" = z := by simpa using h
        exact c (by rw [e])
  rintro σ' H' ⟨v3, rfl, rfl, hno⟩
  rw [List.take_of_length_le (by rw [List.length_map]; exact Nat.le_refl _)] at hno
  walk_at "st"
  refine k _ ?_ q H1 hq e1 h1
  unfold partsF
  rw [if_pos]
  · rfl
  · rw [hall, Bool.true_and, Bool.not_eq_true', decide_eq_false_iff_not]
    exact hno
def isDig (c : Nat) : Bool := decide (48 ≤ c) && decide (c ≤ 57)
def isLet (c : Nat) : Bool := decide (97 ≤ c) && decide (c ≤ 122)
theorem fig_mem {c : Nat} : c ∈ (Str.ofString "0123456789").cps.toList ↔ isDig c = true := by
  have e : (Str.ofString "0123456789").cps.toList = [48, 49, 50, 51, 52, 53, 54, 55, 56, 57] := by decide +kernel
  rw [e]
  unfold isDig
  rw [Bool.and_eq_true, decide_eq_true_iff, decide_eq_true_iff]
  simp
  omega
theorem let_mem {c : Nat} : c ∈ (Str.ofString "abcdefghijklmnopqrstuvwxyz").cps.toList ↔ isLet c = true := by
  have e : (Str.ofString "abcdefghijklmnopqrstuvwxyz").cps.toList = (List.range 26).map (97 + ·) := by decide +kernel
  rw [e]
  unfold isLet
  rw [Bool.and_eq_true, decide_eq_true_iff, decide_eq_true_iff, List.mem_map]
  constructor
  · rintro ⟨a, ha, rfl⟩
    rw [List.mem_range] at ha
    omega
  · intro h
    exact ⟨c - 97, List.mem_range.mpr (by omega), by omega⟩
def numO (x : Str) : Option Int :=
  if x = Str.ofString "" then none else if x.cps.toList.all isDig = false then none else if 1 < x.length ∧ x.cps.toList[0]? = some 48 then none else if 31 < x.length then some (10 ^ 31) else some (PySem.NumText.digitsVal x.cps.toList : Nat)
def oV : Option Int → V
  | none => .non
  | some i => .int i
theorem EVnn {σ : L2.St} {H : Hp} {ta tb : TE} {o : Option Int} (ha : EV ta σ H (oV o)) (hb : EV tb σ H .non) : EV (tOp rNotN ta tb) σ H (.bl o.isSome) := by
  have h := EV.notN ha hb
  have e : (!decide (oV o = V.non)) = o.isSome := by cases o <;> rfl
  rwa [e] at h
theorem EVin {σ : L2.St} {H : Hp} {ta tb : TE} {o : Option Int} (ha : EV ta σ H (oV o)) (hb : EV tb σ H .non) : EV (tOp rIsN ta tb) σ H (.bl (!o.isSome)) := by
  have h := EV.isN ha hb
  have e : (decide (oV o = V.non)) = !o.isSome := by cases o <;> rfl
  rwa [e] at h
def spNum : Sp := fun vs H Q _ => ∃ x : Str, vs = [.str x] ∧ x.length ≤ 1000000 ∧ Q (oV (numO x)) H
theorem str_ne {x : Str} (h : x ≠ Str.ofString "") : x.cps.toList ≠ [] := fun e => h (by
  have : x.cps = #[] := by
    rw [← Array.toList_eq_nil_iff]; exact e
  cases x
  dsimp only at this
  rw [this]
  rfl)
theorem sc_number_of : FnScope ["word", "sign"] ["word"] (defScope s_number_of) := ⟨rfl, rfl, rfl, by decide +kernel, rfl, by decide +kernel, by decide +kernel⟩
theorem ok_number_of (T : Txt w K mg) : CalG P w K mg base 1 "number_of" ["word"] spNum := by
  refine calG_of T.g_number_of T.d_number_of sc_number_of (fun _ _ _ _ _ _ _ us hl => match us, hl with | [_], _ => rfl) (fun vs H Q E h => by obtain ⟨_, rfl, _⟩ := h; rfl) (fun cdv A outer s H vs Q E hr h => ?_)
  have nd := sc_number_of.nd
  have hu := hu64 hr
  obtain ⟨x, rfl, hl, k⟩ := h
  refine ⟨_, (pss_cons (ps_if (pt_cmpR (sameK (K := K) hu) (pv 0) pe_str (nomark _)) (pss_one (ps_ret pe_non)) pss_nil)
        (pss_cons (ps_for (passes_of rfl) rfl (pi_str (pv 0)) (pg_name (i := 1) nd rfl (Or.inl rfl)) (pss_one (ps_if (pt_cmpR op_notInS (pv 1) (pe_kstr T.k_FIGURES) (by rfl)) (pss_one (ps_ret pe_non)) pss_nil)))
        (pss_cons (ps_if (PW.pt (pw_and (pt_cmpR op_gt (pe_callB cr_lenT (by rfl) T.f_len boot_len (pa_cons (pv 0) pa_nil)) pe_int (nomark _)) (pw_and1 (pt_cmpR (sameK (K := K) hu) (pe_ix ix_str (pv 0) pe_int (fun _ _ => rfl)) pe_str (nomark _))))) (pss_one (ps_ret pe_non)) pss_nil)
        (pss_cons (ps_if (pt_cmpR op_gt (pe_callB cr_lenT (by rfl) T.f_len boot_len (pa_cons (pv 0) pa_nil)) pe_int (nomark _)) (pss_one (ps_ret (pe_op op_pow pe_int pe_int))) pss_nil)
        (pss_one (ps_ret (pe_callTy cr_intT (by rfl) T.f_int (by decide +kernel) (pa_cons (pv 0) pa_nil)))))))), ?_⟩
  walk_at "st"
  refine ite_d (fun c => ?_) (fun c => ?_)
  · walk_at "st"
    have e : x = Str.ofString "" := V.str.inj c
    have z : numO x = none := by unfold numO; rw [if_pos e]
    rw [z] at k
    exact k
  have ne : x ≠ Str.ofString "" := fun e => c (by rw [e])
  walk_at "st"
  refine forW_str (fun i σ' H' => ∃ v, σ' = [some (.str x), v] ∧ H = H' ∧ ∀ c ∈ x.cps.toList.take i, isDig c = true) ⟨none, rfl, rfl, fun c h => by rw [List.take_zero] at h; cases h⟩ ?_ ?_
  · rintro i c σ' H' hc ⟨v, rfl, rfl, hall⟩
    walk_at "st"
    refine r_ninC ?_
    walk_at "st"
    refine ite_n (fun c1 => ?_) (fun c1 => ?_)
    · walk_at "st"
      have z : numO x = none := by
        unfold numO
        rw [if_neg ne, if_pos]
        rw [Bool.eq_false_iff]
        intro h
        exact c1 (fig_mem.mpr (List.all_eq_true.mp h c (List.mem_of_getElem? hc)))
      rw [z] at k
      exact k
    · walk_at "st"
      refine ⟨_, rfl, rfl, fun d hd => ?_⟩
      rw [List.take_succ, hc] at hd
      rcases List.mem_append.mp hd with hd | hd
      · exact hall d hd
      · have e : d = c := by simpa using hd
        rw [e]
        exact fig_mem.mp c1
  rintro σ' H' ⟨v, rfl, rfl, hall⟩
  rw [List.take_of_length_le (by rw [Array.length_toList]; exact Nat.le_refl _)] at hall
  have hall2 : ¬ x.cps.toList.all isDig = false := by rw [List.all_eq_true.mpr hall]; exact Bool.noConfusion
  have xl : x.cps.toList ≠ [] := str_ne ne
  obtain ⟨c0, hc0⟩ : ∃ c0, x.cps.toList[0]? = some c0 := ⟨x.cps.toList[0]'(List.length_pos_iff.mpr xl), List.getElem?_eq_getElem _⟩
  walk_at "st"
  refine r_lenS (by omega) ?_
  walk_at "st"
  have last : ∀ (n1 : ¬ (1 < x.length ∧ x.cps.toList[0]? = some 48)), (if decide ((31 : Int) < (x.length : Int)) = true then True else True) := fun _ => by split <;> trivial
  have fin : ¬ (1 < x.length ∧ x.cps.toList[0]? = some 48) → numO x = (if 31 < x.length then some (10 ^ 31) else some ((PySem.NumText.digitsVal x.cps.toList : Nat) : Int) : Option Int) := fun n1 => by
    unfold numO
    rw [if_neg ne, if_neg hall2, if_neg n1]
  have bad : 1 < x.length ∧ x.cps.toList[0]? = some 48 → numO x = none := fun h => by
    unfold numO
    rw [if_neg ne, if_neg hall2, if_pos h]
  have eq0 : (Str.ofString "0") = ⟨#[48]⟩ := by decide +kernel
  have ch : ∀ c : Nat, (V.str ⟨#[c]⟩ = V.str (Str.ofString "0")) ↔ c = 48 := fun c => by
    rw [eq0]
    constructor
    · intro h
      have := V.str.inj h
      injection this with this
      simpa using this
    · rintro rfl; rfl
  clear last
  have rest : ¬ (1 < x.length ∧ x.cps.toList[0]? = some 48) → ∀ (nx : L2.St → Hp → Prop), True := fun _ _ => trivial
  clear rest
  refine ite_d (fun c1 => ?_) (fun c1 => ?_)
  · walk_at "st"
    refine r_ixS (by omega) (atI_nat (j := 0) hc0) ?_
    walk_at "st"
    refine ite_d (fun c2 => ?_) (fun c2 => ?_)
    · walk_at "st"
      rw [bad ⟨by omega, by rw [hc0, (ch c0).mp c2]⟩] at k
      exact k
    · have n1 : ¬ (1 < x.length ∧ x.cps.toList[0]? = some 48) := fun h => c2 ((ch c0).mpr (by rw [hc0] at h; exact Option.some.inj h.2))
      rw [fin n1] at k
      walk_at "st"
      refine r_lenS (by omega) ?_
      walk_at "st"
      refine ite_d (fun c3 => ?_) (fun c3 => ?_)
      · walk_at "st"
        rw [if_pos (by omega)] at k
        exact k
      · rw [if_neg (by omega)] at k
        walk_at "st"
        exact r_intT (PySem.intText_digits (fun d hd => by have := hall d hd; unfold isDig at this; rw [Bool.and_eq_true, decide_eq_true_iff, decide_eq_true_iff] at this; exact this) xl (by omega)) (by omega) k
  · have n1 : ¬ (1 < x.length ∧ x.cps.toList[0]? = some 48) := fun h => c1 (by omega)
    rw [fin n1] at k
    walk_at "st"
    refine r_lenS (by omega) ?_
    walk_at "st"
    refine ite_d (fun c3 => ?_) (fun c3 => ?_)
    · walk_at "st"
      rw [if_pos (by omega)] at k
      exact k
    · rw [if_neg (by omega)] at k
      walk_at "st"
      exact r_intT (PySem.intText_digits (fun d hd => by have := hall d hd; unfold isDig at this; rw [Bool.and_eq_true, decide_eq_true_iff, decide_eq_true_iff] at this; exact this) xl (by omega)) (by omega) k
/-! names -/

end
end K35
set_option maxRecDepth 100000
set_option maxHeartbeats 4000000
namespace K35
open PySem PySem.Spec PyProof.Rows L2 L3
local macro_rules | `(tactic| walk_at "s1") => `(tactic| first
  | with_reducible refine r_seq ?_
  | with_reducible refine r_asgN ?_
  | with_reducible refine r_ret ?_
  | with_reducible refine r_next ?_
  | ((with_reducible refine' r_var ?hv ?_); (case hv => exact rfl))
  | with_reducible refine r_c ?_
  | with_reducible refine r_op ?_
  | with_reducible refine r_cons ?_
  | with_reducible refine r_nil ?_
  | with_reducible refine r_plusI ?_
  | with_reducible refine r_I0 ?_
  | with_reducible refine r_test ?_
  | with_reducible refine r_bl ?_
  | with_reducible refine r_ifS ?_
  | with_reducible refine r_cb ?_
  | with_reducible refine r_callS ?_
  | with_reducible refine r_and ?_
  | with_reducible refine r_or ?_
  | with_reducible refine r_not ?_
  | with_reducible refine r_B ?_
  | ((with_reducible refine' r_aug ?hv ?_); (case hv => exact rfl))
  | with_reducible refine r_augS ?_
  | with_reducible refine r_ipI ?_
  | with_reducible refine r_asg ?_
  | with_reducible refine r_sub ?_
  | with_reducible refine r_brk ?_
  | with_reducible refine r_isN1 ?_
  | with_reducible refine r_notN1 ?_
  | with_reducible refine r_intI ?_
  | with_reducible refine r_abs ?_
  | with_reducible refine r_min ?_
  | with_reducible refine r_max ?_
  | ((with_reducible refine' r_mod ?hz ?_); (case hz => omega))
  | ((with_reducible refine' r_pow ?hz ?_); (case hz => exact ⟨by decide, by decide, by decide⟩))
  | ((with_reducible refine' r_rg1 ?hz ?_); (case hz => omega))
  | ((with_reducible refine' r_rg2 ?hz ?_); (case hz => omega))
  | ((with_reducible refine' r_newL ?hz ?_); (case hz => exact Nat.le_of_ble_eq_true rfl))
  | ((with_reducible refine' r_newT ?hz ?_); (case hz => exact Nat.le_of_ble_eq_true rfl))
  | with_reducible refine r_for ?_
  | with_reducible refine r_lc ?_
  | with_reducible refine r_iR1 ?_
  | with_reducible refine r_iR2 ?_
  | with_reducible refine r_iL ?_
  | with_reducible refine r_iT ?_
  | with_reducible refine r_gname ?_
  | with_reducible refine r_gcons ?_
  | with_reducible refine r_gnil ?_
  | with_reducible refine r_yes ?_
  | with_reducible refine r_mkO ?_
  | with_reducible refine r_cont ?_
  | with_reducible refine r_drop ?_
  | with_reducible refine r_retN ?_
  | with_reducible refine r_ifC ?_
  | with_reducible refine r_ifI ?_
  | with_reducible refine r_if ?_
  | with_reducible refine r_un ?_
  | with_reducible refine r_neg ?_
  | with_reducible refine r_andV ?_
  | with_reducible refine r_orV ?_
  | with_reducible refine r_notV ?_
  | with_reducible refine r_tup ?_
  | with_reducible refine r_lst ?_
  | with_reducible refine r_bm ?_
  | with_reducible refine r_bm0 ?_
  | with_reducible refine r_sl ?_
  | with_reducible refine r_chain ?_
  | with_reducible refine r_listDn ?_
  | with_reducible refine r_listRg2 ?_
  | with_reducible refine r_listRg1 ?_
  | with_reducible refine r_revL ?_
  | with_reducible refine r_noPart ?_
  | with_reducible refine r_meth ?_
  | with_reducible refine r_methE ?_
  | with_reducible refine r_js ?_
  | with_reducible refine r_jsC ?_
  | with_reducible refine r_jsN ?_
  | with_reducible refine r_fmt ?_
  | with_reducible refine r_fld ?_
  | with_reducible refine r_sfld ?_
  | with_reducible refine r_make ?_
  | with_reducible refine r_m1 ?_
  | with_reducible refine r_m1s ?_
  | with_reducible refine r_iS ?_
  | with_reducible refine r_iE ?_
  | with_reducible refine r_si ?_
  | with_reducible refine r_strS ?_
  | with_reducible refine r_dgt ?_
  | with_reducible refine r_din ?_
  | with_reducible refine r_dnin ?_
  | with_reducible refine r_dput ?_
  | with_reducible refine r_dnew ?_
  | with_reducible refine r_disp1 ?_
  | with_reducible refine r_lenSet ?_
  | with_reducible refine r_get2 ?_
  | with_reducible refine r_get1 ?_
  | with_reducible refine r_daug ?_
  | with_reducible refine r_iR3 ?_
  | with_reducible refine r_prC ?_
  | with_reducible refine r_prN ?_
  | with_reducible refine r_part ?_
  | with_reducible refine r_int ?_
  | ((with_reducible refine' r_sameS ?hs ?_); (case hs => exact rfl))
  | ((with_reducible refine' r_otherS ?hs ?_); (case hs => exact rfl))
  | with_reducible refine ite_t ?_
  | with_reducible refine ite_f ?_
  | with_reducible refine ite_nt ?_
  | with_reducible refine ite_nf ?_)
local macro_rules | `(tactic| walk_at "st") => `(tactic| repeat (walk_at "s1"))
local macro_rules | `(tactic| walk_at "su") => `(tactic| first
  | with_reducible refine r_seq ?_
  | with_reducible refine r_asgN ?_
  | with_reducible refine r_ret ?_
  | with_reducible refine r_next ?_
  | ((with_reducible refine' r_var ?hv ?_); (case hv => exact rfl))
  | with_reducible refine r_c ?_
  | with_reducible refine r_op ?_
  | with_reducible refine r_cons ?_
  | with_reducible refine r_nil ?_
  | with_reducible refine r_plusI ?_
  | with_reducible refine r_I0 ?_
  | with_reducible refine r_test ?_
  | with_reducible refine r_bl ?_
  | with_reducible refine r_cb ?_
  | with_reducible refine r_callS ?_
  | with_reducible refine r_and ?_
  | with_reducible refine r_or ?_
  | with_reducible refine r_not ?_
  | with_reducible refine r_B ?_
  | ((with_reducible refine' r_aug ?hv ?_); (case hv => exact rfl))
  | with_reducible refine r_augS ?_
  | with_reducible refine r_ipI ?_
  | with_reducible refine r_asg ?_
  | with_reducible refine r_sub ?_
  | with_reducible refine r_brk ?_
  | with_reducible refine r_isN1 ?_
  | with_reducible refine r_notN1 ?_
  | with_reducible refine r_intI ?_
  | with_reducible refine r_abs ?_
  | with_reducible refine r_min ?_
  | with_reducible refine r_max ?_
  | ((with_reducible refine' r_mod ?hz ?_); (case hz => omega))
  | ((with_reducible refine' r_pow ?hz ?_); (case hz => exact ⟨by decide, by decide, by decide⟩))
  | ((with_reducible refine' r_rg1 ?hz ?_); (case hz => omega))
  | ((with_reducible refine' r_rg2 ?hz ?_); (case hz => omega))
  | ((with_reducible refine' r_newL ?hz ?_); (case hz => exact Nat.le_of_ble_eq_true rfl))
  | ((with_reducible refine' r_newT ?hz ?_); (case hz => exact Nat.le_of_ble_eq_true rfl))
  | with_reducible refine r_for ?_
  | with_reducible refine r_lc ?_
  | with_reducible refine r_iR1 ?_
  | with_reducible refine r_iR2 ?_
  | with_reducible refine r_iL ?_
  | with_reducible refine r_iT ?_
  | with_reducible refine r_gname ?_
  | with_reducible refine r_gcons ?_
  | with_reducible refine r_gnil ?_
  | with_reducible refine r_yes ?_
  | with_reducible refine r_mkO ?_
  | with_reducible refine r_cont ?_
  | with_reducible refine r_drop ?_
  | with_reducible refine r_retN ?_
  | with_reducible refine r_ifC ?_
  | with_reducible refine r_ifI ?_
  | with_reducible refine r_if ?_
  | with_reducible refine r_un ?_
  | with_reducible refine r_neg ?_
  | with_reducible refine r_andV ?_
  | with_reducible refine r_orV ?_
  | with_reducible refine r_notV ?_
  | with_reducible refine r_tup ?_
  | with_reducible refine r_lst ?_
  | with_reducible refine r_bm ?_
  | with_reducible refine r_bm0 ?_
  | with_reducible refine r_sl ?_
  | with_reducible refine r_chain ?_
  | with_reducible refine r_listDn ?_
  | with_reducible refine r_listRg2 ?_
  | with_reducible refine r_listRg1 ?_
  | with_reducible refine r_revL ?_
  | with_reducible refine r_noPart ?_
  | with_reducible refine r_meth ?_
  | with_reducible refine r_methE ?_
  | with_reducible refine r_js ?_
  | with_reducible refine r_jsC ?_
  | with_reducible refine r_jsN ?_
  | with_reducible refine r_fmt ?_
  | with_reducible refine r_fld ?_
  | with_reducible refine r_sfld ?_
  | with_reducible refine r_make ?_
  | with_reducible refine r_m1 ?_
  | with_reducible refine r_m1s ?_
  | with_reducible refine r_iS ?_
  | with_reducible refine r_iE ?_
  | with_reducible refine r_si ?_
  | with_reducible refine r_strS ?_
  | with_reducible refine r_dgt ?_
  | with_reducible refine r_din ?_
  | with_reducible refine r_dnin ?_
  | with_reducible refine r_dput ?_
  | with_reducible refine r_dnew ?_
  | with_reducible refine r_disp1 ?_
  | with_reducible refine r_lenSet ?_
  | with_reducible refine r_get2 ?_
  | with_reducible refine r_get1 ?_
  | with_reducible refine r_daug ?_
  | with_reducible refine r_iR3 ?_
  | with_reducible refine r_prC ?_
  | with_reducible refine r_prN ?_
  | with_reducible refine r_part ?_
  | with_reducible refine r_int ?_
  | ((with_reducible refine' r_sameS ?hs ?_); (case hs => exact rfl))
  | ((with_reducible refine' r_otherS ?hs ?_); (case hs => exact rfl))
  | with_reducible refine ite_t ?_
  | with_reducible refine ite_f ?_
  | with_reducible refine ite_nt ?_
  | with_reducible refine ite_nf ?_)
local macro_rules | `(tactic| walk_at "sv") => `(tactic| repeat (walk_at "su"))

section
variable {P : Program} {w : World} {K : PySem.W.Frag} {mg : Str → Option Value} {base : Heap}
/-! ### words of a line, cut -/
def jn (l : List Str) : Str := Txt.join sp1 l
abbrev e0 : Str := Str.ofString ""
theorem sp1_tl : TL.tl sp1 = [32] := by decide +kernel
theorem nl_tl : TL.tl (Str.ofString "\n") = [10] := by decide +kernel
theorem partsF_split {x : Str} {ws : List Str} (h : partsF x = some ws) : Txt.split x sp1 = ws := by
  unfold partsF at h
  split at h
  · exact Option.some.inj h
  · cases h
theorem spl_mem {S : List Nat} : ∀ {xs : List Nat} {k : Nat} {acc : List Nat}, ∀ p ∈ TL.spl S k acc xs, (∀ c ∈ p, c ∈ acc ∨ c ∈ xs) ∧ p.length ≤ acc.length + xs.length
  | [], k, acc, p, hp => by
    rw [TL.spl_nil] at hp
    rw [List.mem_singleton.mp hp]
    exact ⟨fun c hc => .inl hc, by omega⟩
  | x :: xs, 0, acc, p, hp => by
    unfold TL.spl at hp
    split at hp
    · rcases List.mem_cons.mp hp with rfl | hp
      · exact ⟨fun c hc => .inl hc, by omega⟩
      · obtain ⟨h1, h2⟩ := spl_mem p hp
        refine ⟨fun c hc => ?_, by rw [List.length_cons]; simp at h2; omega⟩
        rcases h1 c hc with h | h
        · cases h
        · exact .inr (List.mem_cons_of_mem _ h)
    · obtain ⟨h1, h2⟩ := spl_mem p hp
      refine ⟨fun c hc => ?_, by rw [List.length_append] at h2; rw [List.length_cons]; simp at h2; omega⟩
      rcases h1 c hc with h | h
      · rcases List.mem_append.mp h with h | h
        · exact .inl h
        · rw [List.mem_singleton.mp h]
          exact .inr List.mem_cons_self
      · exact .inr (List.mem_cons_of_mem _ h)
  | x :: xs, k + 1, acc, p, hp => by
    unfold TL.spl at hp
    obtain ⟨h1, h2⟩ := spl_mem p hp
    exact ⟨fun c hc => (h1 c hc).imp id (List.mem_cons_of_mem _), by rw [List.length_cons]; omega⟩
theorem spl_ne {S : List Nat} : ∀ {xs : List Nat} {k : Nat} {acc : List Nat}, TL.spl S k acc xs ≠ []
  | [], k, acc => by rw [TL.spl_nil]; simp
  | x :: xs, 0, acc => by
    unfold TL.spl
    split
    · simp
    · exact spl_ne
  | x :: xs, k + 1, acc => by
    unfold TL.spl
    exact spl_ne
theorem sp1_kind (x : Str) : ¬ Builtin.Str.strKind x < Builtin.Str.strKind sp1 := TL.kind_ok (by decide +kernel)
theorem split_word {x : Str} {w : Str} (h : w ∈ Txt.split x sp1) : (∀ c ∈ w.cps.toList, c ∈ x.cps.toList) ∧ w.length ≤ x.length := by
  have e := TL.split_spl x sp1 (by rw [sp1_tl]; simp) (sp1_kind x)
  have hm : TL.tl w ∈ TL.spl (TL.tl sp1) 0 [] (TL.tl x) := by
    rw [← e]
    exact List.mem_map.mpr ⟨w, h, rfl⟩
  obtain ⟨h1, h2⟩ := spl_mem _ hm
  refine ⟨fun c hc => (h1 c hc).resolve_left (fun z => nomatch z), ?_⟩
  have h2 : w.cps.toList.length ≤ 0 + x.cps.toList.length := h2
  rw [Array.length_toList, Array.length_toList] at h2
  show w.cps.size ≤ x.cps.size
  omega
theorem split_ne {x : Str} : Txt.split x sp1 ≠ [] := fun h => by
  have e := TL.split_spl x sp1 (by rw [sp1_tl]; simp) (sp1_kind x)
  rw [h] at e
  exact spl_ne e.symm
theorem spl_many {S : List Nat} : ∀ {xs : List Nat} {k : Nat} {acc : List Nat}, (TL.spl S k acc xs).length ≤ xs.length + 1
  | [], k, acc => by
    rw [TL.spl_nil]
    simp
  | x :: xs, 0, acc => by
    unfold TL.spl
    split
    · have := spl_many (S := S) (xs := xs) (k := S.length - 1) (acc := [])
      rw [List.length_cons, List.length_cons]
      omega
    · have := spl_many (S := S) (xs := xs) (k := 0) (acc := acc ++ [x])
      rw [List.length_cons]
      omega
  | x :: xs, k + 1, acc => by
    unfold TL.spl
    have := spl_many (S := S) (xs := xs) (k := k) (acc := acc)
    rw [List.length_cons]
    omega
theorem split_many (x : Str) : (Txt.split x sp1).length ≤ x.length + 1 := by
  have e := TL.split_spl x sp1 (by rw [sp1_tl]; simp) (sp1_kind x)
  have h := spl_many (S := TL.tl sp1) (xs := TL.tl x) (k := 0) (acc := [])
  rw [← e, List.length_map] at h
  have l : x.length = (TL.tl x).length := TL.len_tl x
  omega

/-! ### signed numbers, words of a line -/
theorem tl_from1 (x : Str) : TL.tl (Txt.slice x (some 1) none) = (TL.tl x).drop 1 := by
  rw [← C8.cutS_slice]
  show (((x.cps.toList.drop (HT.sIx x.length 0 (some 1))).take (HT.sIx x.length x.length none - HT.sIx x.length 0 (some 1))).toArray).toList = x.cps.toList.drop 1
  have l : x.length = x.cps.toList.length := TL.len_tl x
  have e2 : HT.sIx x.length x.length none = x.length := rfl
  have e1 : HT.sIx x.length 0 (some 1) = min 1 x.length := by
    exact HT.sIx_nat _ _ 1
  rw [e1, e2]
  by_cases c : x.length = 0
  · have : x.cps.toList = [] := List.eq_nil_of_length_eq_zero (by omega)
    rw [this]
    simp
  · rw [show min 1 x.length = 1 by omega]
    simp only [List.toList_toArray]
    rw [List.take_of_length_le (by rw [List.length_drop]; omega)]
theorem tl_to1 (x : Str) : TL.tl (Txt.slice x none (some 1)) = (TL.tl x).take 1 := by
  rw [← C8.cutS_slice]
  show (((x.cps.toList.drop (HT.sIx x.length 0 none)).take (HT.sIx x.length x.length (some 1) - HT.sIx x.length 0 none)).toArray).toList = x.cps.toList.take 1
  have l : x.length = x.cps.toList.length := TL.len_tl x
  have e2 : HT.sIx x.length 0 none = 0 := rfl
  have e1 : HT.sIx x.length x.length (some 1) = min 1 x.length := by
    exact HT.sIx_nat _ _ 1
  rw [e1, e2]
  simp only [List.toList_toArray, List.drop_zero, Nat.sub_zero]
  rw [l]
  by_cases c : x.cps.toList.length = 0
  · have : x.cps.toList = [] := List.eq_nil_of_length_eq_zero c
    rw [this]
    rfl
  · rw [show min 1 x.cps.toList.length = 1 by omega]
def neg1 (x : Str) : Bool := decide (Txt.slice x none (some 1) = ("-" : Str))
def sgnO (x : Str) : Option Int := if neg1 x = true then (match numO (Txt.slice x (some 1) none) with | none => none | some n => if n = 0 then none else some (-n)) else numO x
def wV (x : Str) : V := match sgnO x with | some n => .int n | none => .str x
def wD (x : Str) : PyData := match sgnO x with | some n => .int n | none => .str x
theorem wdp {K : PySem.W.Frag} {H : Hp} (x : Str) : Dp K H (wV x) (wD x) := by
  unfold wV wD
  split
  · exact .int _
  · exact .str _
theorem wnw {S : Addr → Prop} {H : Hp} (x : Str) : Nw S H (wV x) (wD x) := by
  unfold wV wD
  split
  · exact .int _
  · exact .str _
theorem wnws {S : Addr → Prop} {H : Hp} : ∀ ws : List Str, Nws S H (ws.map wV) (ws.map wD)
  | [] => .nil
  | w :: ws => .cons (wnw w) (wnws ws)
def spSgn : Sp := fun vs H Q _ => ∃ x : Str, vs = [.str x] ∧ x.length ≤ 1000000 ∧ ∀ H', Ext H H' → Q (oV (sgnO x)) H'
theorem sc_signed_number : FnScope ["word", "number"] ["word"] (defScope s_signed_number) := ⟨rfl, rfl, rfl, by decide +kernel, rfl, by decide +kernel, by decide +kernel⟩
theorem ok_signed_number (T : Txt w K mg) : CalG P w K mg base 2 "signed_number" ["word"] spSgn := by
  have c_number_of := ok_number_of (P := P) (base := base) T
  refine calG_of T.g_signed_number T.d_signed_number sc_signed_number (fun _ _ _ _ _ _ _ us hl => match us, hl with | [_], _ => rfl) (fun vs H Q E h => by obtain ⟨_, rfl, _⟩ := h; rfl) (fun cdv A outer s H vs Q E hr h => ?_)
  have nd := sc_signed_number.nd
  have hu := hu64 hr
  obtain ⟨x, rfl, hl, k⟩ := h
  refine ⟨_, (pss_cons (ps_if (pt_cmpR (otherK (K := K) hu) (pe_slice C8.sl_txt (pv 0) po_none (po_some pe_int)) pe_str (nomark _)) (pss_one (ps_ret (pe_cal c_number_of hr (by omega) (fun σ => L2N.passAt (L2N.takes_of rfl rfl rfl rfl) σ) (pa_cons (pv 0) pa_nil)))) pss_nil)
        (pss_cons (ps_set (i := 1) nd rfl (Or.inl rfl) (pe_cal c_number_of hr (by omega) (fun σ => L2N.passAt (L2N.takes_of rfl rfl rfl rfl) σ) (pa_cons (pe_slice C8.sl_txt (pv 0) (po_some pe_int) po_none) pa_nil)))
        (pss_one (ps_ret (pe_ifExp (PW.pt (pw_or (pt_cmpR op_isN1 (pv 1) pe_non (nomark _)) (pw_or1 (pt_cmpR (sameK (K := K) hu) (pv 1) pe_int (nomark _))))) pe_non (pe_un un_neg (pv 1))))))), ?_⟩
  walk_at "st"
  refine r_slX (by omega) ?_
  walk_at "st"
  by_cases c : neg1 x = true
  · have e : Txt.slice x none (some 1) = ("-" : Str) := of_decide_eq_true c
    refine ite_n (fun n => absurd (congrArg V.str e) n) (fun _ => ?_)
    walk_at "st"
    refine r_slX (by omega) ?_
    walk_at "st"
    refine ⟨_, rfl, Nat.le_trans (Txt.slice_le _ _ _) hl, ?_⟩
    walk_at "st"
    have k2 := k H .rfl
    unfold sgnO at k2
    rw [if_pos c] at k2
    cases h : numO (Txt.slice x (some 1) none) with
    | none =>
      rw [h] at k2
      refine ite_d (fun _ => ?_) (fun n => absurd rfl n)
      refine ite_t ?_
      walk_at "st"
      exact k2
    | some n =>
      rw [h] at k2
      refine ite_d (fun z => nomatch z) (fun _ => ?_)
      walk_at "st"
      by_cases c0 : n = 0
      · subst c0
        walk_at "st"
        refine ite_d (fun _ => ?_) (fun n => absurd rfl n)
        walk_at "st"
        exact k2
      · walk_at "st"
        refine ite_d (fun z => absurd (V.int.inj z) c0) (fun _ => ?_)
        walk_at "st"
        have e3 : (match (some n : Option Int) with | none => none | some n => if n = 0 then none else some (-n)) = some (-n) := if_neg c0
        rw [e3] at k2
        exact r_neg (i := n) k2
  · refine ite_n (fun n => ?_) (fun z => absurd (decide_eq_true (V.str.inj z)) c)
    walk_at "st"
    refine ⟨x, rfl, hl, ?_⟩
    walk_at "st"
    have k2 := k H .rfl
    unfold sgnO at k2
    rw [if_neg c] at k2
    exact k2
def spLW : Sp := fun vs H Q _ => ∃ x : Str, vs = [.str x] ∧ x.length ≤ 1000000 ∧ (∀ ws, partsF x = some ws → ∀ q H', H q = none → Ext H H' → H' q = some (.lst (ws.map wV)) → Q (.ref q) H') ∧ (partsF x = none → ∀ H', Ext H H' → Q .non H')
theorem partsF_len {x : Str} {ws : List Str} (h : partsF x = some ws) : (∀ w ∈ ws, w.length ≤ x.length) ∧ ws.length ≤ x.length + 1 := by
  have e := partsF_split h
  rw [← e]
  exact ⟨fun w hw => (split_word hw).2, split_many x⟩
theorem sc_line_words : FnScope ["line", "words", "word"] ["line"] (defScope s_line_words) := ⟨rfl, rfl, rfl, by decide +kernel, rfl, by decide +kernel, by decide +kernel⟩
theorem ok_line_words (T : Txt w K mg) : CalG P w K mg base 3 "line_words" ["line"] spLW := by
  have c_parts_of := ok_parts_of (P := P) (base := base) T
  have c_signed_number := ok_signed_number (P := P) (base := base) T
  refine calG_of T.g_line_words T.d_line_words sc_line_words (fun _ _ _ _ _ _ _ us hl => match us, hl with | [_], _ => rfl) (fun vs H Q E h => by obtain ⟨_, rfl, _⟩ := h; rfl) (fun cdv A outer s H vs Q E hr h => ?_)
  have nd := sc_line_words.nd
  have hu := hu64 hr
  obtain ⟨x, rfl, hl, k1, k2⟩ := h
  refine ⟨_, (pss_cons (ps_set (i := 1) nd rfl (Or.inl rfl) (pe_cal c_parts_of hr (by omega) (fun σ => L2N.passAt (L2N.takes_of rfl rfl rfl rfl) σ) (pa_cons (pv 0) pa_nil)))
        (pss_cons (ps_if (pt_cmpR op_isN1 (pv 1) pe_non (nomark _)) (pss_one (ps_ret pe_non)) pss_nil)
        (pss_one (ps_ret (pe_lc (own := [("word", 2)]) rfl nd (piL (K := K) (pv 1)) (blkOk_by (N := ["line", "words", "word"]) (sc := defScope s_line_words) (by decide +kernel)) (fun _ _ _ _ _ => (pg_name (i := 2) nd rfl (Or.inl rfl))) (fun _ _ _ _ _ => pts_nil) (fun _ _ _ _ _ => (pe_ifExp (pt_cmpR op_isN1 (pe_cal c_signed_number hr (by omega) passN (pa_cons (pv 2) pa_nil)) pe_non (nomark _)) (pv 2) (pe_cal c_signed_number hr (by omega) passN (pa_cons (pv 2) pa_nil))))))))), ?_⟩
  walk_at "st"
  refine ⟨x, rfl, hl, fun ws hw q H1 hq e1 h1 => ?_, fun hn H1 e1 => ?_⟩
  · obtain ⟨wl, wn⟩ := partsF_len hw
    walk_at "st"
    refine ite_d (fun z => nomatch z) (fun _ => ?_)
    walk_at "st"
    refine r_li (sqL h1) ?_
    intro D hD
    refine lcW_list (LcP H1 D fun i => wV (ws.getD i (Str.ofString ""))) (.start hD) (fun i H' _ p => sqL (p.e _ _ h1)) (fun i y H2 hy p => ?_) (fun H2 p => ?_)
    · have ii : i < ws.length := by have := (List.getElem?_eq_some_iff.mp hy).1; rwa [List.length_map] at this
      rw [strs_at ii] at hy
      cases hy
      have hx := wl _ (getD_memS ii)
      generalize ew : ws.getD i (Str.ofString "") = wd at hx
      walk_at "st"
      refine r_lcW rfl ?_
      walk_at "st"
      refine ⟨_, rfl, by omega, fun H3 e3 => ?_⟩
      walk_at "st"
      cases hs : sgnO wd with
      | none =>
        refine ite_d (fun _ => ?_) (fun n => absurd rfl n)
        walk_at "st"
        refine p.pushB hD (by omega) e3 ?_
        rw [ew]
        unfold wV
        rw [hs]
      | some n =>
        refine ite_d (fun z => nomatch z) (fun _ => ?_)
        walk_at "st"
        refine ⟨_, rfl, by omega, fun H4 e4 => ?_⟩
        refine p.pushB hD (by omega) (e3.trans e4) ?_
        rw [ew]
        unfold wV
        rw [hs]
        rfl
    · walk_at "st"
      refine k1 ws hw D H2 (e1.none hD) (e1.trans p.e) ?_
      rw [p.d]
      congr 2
      apply List.ext_getElem?
      intro j
      rw [List.getElem?_map, List.getElem?_map, List.length_map]
      by_cases c : j < ws.length
      · rw [List.getElem?_range c, List.getElem?_eq_getElem c]
        show some (wV (ws.getD j _)) = _
        rw [List.getD_eq_getElem?_getD, List.getElem?_eq_getElem c]
        rfl
      · rw [List.getElem?_eq_none (by rw [List.length_range]; omega), List.getElem?_eq_none (by omega)]
        rfl
  · walk_at "st"
    refine ite_d (fun _ => ?_) (fun n => absurd rfl n)
    walk_at "st"
    exact k2 hn H1 e1
def plainB (w : Str) : Bool := match sgnO w with | some n => decide (0 ≤ n) | none => false
def spPlainN (K : PySem.W.Frag) : Sp := fun vs H Q _ => ∃ (p : Addr) (ws : List Str), vs = [.ref p] ∧ SqL K H p (ws.map wV) ∧ Q (.bl (ws.all plainB)) H
theorem sc_plain_numbers : FnScope ["words", "word"] ["words"] (defScope s_plain_numbers) := ⟨rfl, rfl, rfl, by decide +kernel, rfl, by decide +kernel, by decide +kernel⟩
theorem ok_plain_numbers (T : Txt w K mg) : CalG P w K mg base 1 "plain_numbers" ["words"] (spPlainN K) := by
  refine calG_of T.g_plain_numbers T.d_plain_numbers sc_plain_numbers (fun _ _ _ _ _ _ _ us hl => match us, hl with | [_], _ => rfl) (fun vs H Q E h => by obtain ⟨_, _, rfl, _⟩ := h; rfl) (fun cdv A outer s H vs Q E hr h => ?_)
  have nd := sc_plain_numbers.nd
  have hu := hu64 hr
  obtain ⟨p, ws, rfl, hp, k⟩ := h
  refine ⟨_, (pss_cons (ps_for (passes_of rfl) rfl (piL (K := K) (pv 0)) (pg_name (i := 1) nd rfl (Or.inl rfl)) (pss_one (ps_if (PW.pt (pw_or (pt_not (pt_val (pe_callB (isiK (K := K)) (by rfl) T.f_isinstance (by decide +kernel) (pa_cons (pv 1) (pa_cons (pe_ty T.f_int) pa_nil))))) (pw_or1 (pt_cmpR op_lt (pv 1) pe_int (nomark _))))) (pss_one (ps_ret pe_bl)) pss_nil)))
        (pss_one (ps_ret pe_bl))), ?_⟩
  walk_at "st"
  refine r_li hp ?_
  refine forW_list (fun i σ' H' => ∃ v, σ' = [some (.ref p), v] ∧ H = H' ∧ ∀ c ∈ ws.take i, plainB c = true) ⟨none, rfl, rfl, fun c h => by rw [List.take_zero] at h; cases h⟩ (fun i σ' H' _ ⟨_, _, e, _⟩ => e ▸ hp) ?_ ?_
  · rintro i y σ' H' hy ⟨v, rfl, rfl, hall⟩
    rw [List.getElem?_map] at hy
    obtain ⟨x, hx, rfl⟩ := Option.map_eq_some_iff.mp hy
    have hxm := List.mem_of_getElem? hx
    have bad : plainB x = false → Q (.bl false) H := fun hb => by
      rw [show ws.all plainB = false from Bool.eq_false_iff.mpr fun h => by have := List.all_eq_true.mp h x hxm; rw [hb] at this; cases this] at k
      exact k
    have good : plainB x = true → ∀ c ∈ ws.take (i + 1), plainB c = true := fun hb d hd => by
      rw [List.take_succ, hx] at hd
      rcases List.mem_append.mp hd with hd | hd
      · exact hall d hd
      · have e : d = x := by simpa using hd
        rw [e]
        exact hb
    walk_at "st"
    refine r_isi (b := "int") (wdp x) (by simp) ?_
    walk_at "st"
    unfold wV wD
    cases hs : sgnO x with
    | none =>
      rw [show isB (tyD (.str x)) "int" = false by simp [isB, tyD]]
      walk_at "st"
      exact bad (by unfold plainB; rw [hs])
    | some n =>
      rw [show isB (tyD (.int n)) "int" = true by simp [isB, tyD]]
      walk_at "st"
      refine ite_d (fun c => ?_) (fun c => ?_)
      · walk_at "st"
        exact bad (by unfold plainB; rw [hs]; exact decide_eq_false (by omega))
      · walk_at "st"
        exact ⟨_, rfl, rfl, good (by unfold plainB; rw [hs]; exact decide_eq_true (by omega))⟩
  · rintro σ' H' ⟨v, rfl, rfl, hall⟩
    rw [List.length_map, List.take_length] at hall
    rw [List.all_eq_true.mpr hall] at k
    walk_at "st"
    exact k

end
end K35
set_option maxRecDepth 100000
set_option maxHeartbeats 4000000
namespace K35
open PySem PySem.Spec PyProof.Rows L2 L3
local macro_rules | `(tactic| walk_at "s1") => `(tactic| first
  | with_reducible refine r_seq ?_
  | with_reducible refine r_asgN ?_
  | with_reducible refine r_ret ?_
  | with_reducible refine r_next ?_
  | ((with_reducible refine' r_var ?hv ?_); (case hv => exact rfl))
  | with_reducible refine r_c ?_
  | with_reducible refine r_op ?_
  | with_reducible refine r_cons ?_
  | with_reducible refine r_nil ?_
  | with_reducible refine r_plusI ?_
  | with_reducible refine r_I0 ?_
  | with_reducible refine r_test ?_
  | with_reducible refine r_bl ?_
  | with_reducible refine r_ifS ?_
  | with_reducible refine r_cb ?_
  | with_reducible refine r_callS ?_
  | with_reducible refine r_and ?_
  | with_reducible refine r_or ?_
  | with_reducible refine r_not ?_
  | with_reducible refine r_B ?_
  | ((with_reducible refine' r_aug ?hv ?_); (case hv => exact rfl))
  | with_reducible refine r_augS ?_
  | with_reducible refine r_ipI ?_
  | with_reducible refine r_asg ?_
  | with_reducible refine r_sub ?_
  | with_reducible refine r_brk ?_
  | with_reducible refine r_isN1 ?_
  | with_reducible refine r_notN1 ?_
  | with_reducible refine r_intI ?_
  | with_reducible refine r_abs ?_
  | with_reducible refine r_min ?_
  | with_reducible refine r_max ?_
  | ((with_reducible refine' r_mod ?hz ?_); (case hz => omega))
  | ((with_reducible refine' r_pow ?hz ?_); (case hz => exact ⟨by decide, by decide, by decide⟩))
  | ((with_reducible refine' r_rg1 ?hz ?_); (case hz => omega))
  | ((with_reducible refine' r_rg2 ?hz ?_); (case hz => omega))
  | ((with_reducible refine' r_newL ?hz ?_); (case hz => exact Nat.le_of_ble_eq_true rfl))
  | ((with_reducible refine' r_newT ?hz ?_); (case hz => exact Nat.le_of_ble_eq_true rfl))
  | with_reducible refine r_for ?_
  | with_reducible refine r_lc ?_
  | with_reducible refine r_iR1 ?_
  | with_reducible refine r_iR2 ?_
  | with_reducible refine r_iL ?_
  | with_reducible refine r_iT ?_
  | with_reducible refine r_gname ?_
  | with_reducible refine r_gcons ?_
  | with_reducible refine r_gnil ?_
  | with_reducible refine r_yes ?_
  | with_reducible refine r_mkO ?_
  | with_reducible refine r_cont ?_
  | with_reducible refine r_drop ?_
  | with_reducible refine r_retN ?_
  | with_reducible refine r_ifC ?_
  | with_reducible refine r_ifI ?_
  | with_reducible refine r_if ?_
  | with_reducible refine r_un ?_
  | with_reducible refine r_neg ?_
  | with_reducible refine r_andV ?_
  | with_reducible refine r_orV ?_
  | with_reducible refine r_notV ?_
  | with_reducible refine r_tup ?_
  | with_reducible refine r_lst ?_
  | with_reducible refine r_bm ?_
  | with_reducible refine r_bm0 ?_
  | with_reducible refine r_sl ?_
  | with_reducible refine r_chain ?_
  | with_reducible refine r_listDn ?_
  | with_reducible refine r_listRg2 ?_
  | with_reducible refine r_listRg1 ?_
  | with_reducible refine r_revL ?_
  | with_reducible refine r_noPart ?_
  | with_reducible refine r_meth ?_
  | with_reducible refine r_methE ?_
  | with_reducible refine r_js ?_
  | with_reducible refine r_jsC ?_
  | with_reducible refine r_jsN ?_
  | with_reducible refine r_fmt ?_
  | with_reducible refine r_fld ?_
  | with_reducible refine r_sfld ?_
  | with_reducible refine r_make ?_
  | with_reducible refine r_m1 ?_
  | with_reducible refine r_m1s ?_
  | with_reducible refine r_iS ?_
  | with_reducible refine r_iE ?_
  | with_reducible refine r_si ?_
  | with_reducible refine r_strS ?_
  | with_reducible refine r_dgt ?_
  | with_reducible refine r_din ?_
  | with_reducible refine r_dnin ?_
  | with_reducible refine r_dput ?_
  | with_reducible refine r_dnew ?_
  | with_reducible refine r_disp1 ?_
  | with_reducible refine r_lenSet ?_
  | with_reducible refine r_get2 ?_
  | with_reducible refine r_get1 ?_
  | with_reducible refine r_daug ?_
  | with_reducible refine r_iR3 ?_
  | with_reducible refine r_prC ?_
  | with_reducible refine r_prN ?_
  | with_reducible refine r_part ?_
  | with_reducible refine r_int ?_
  | ((with_reducible refine' r_sameS ?hs ?_); (case hs => exact rfl))
  | ((with_reducible refine' r_otherS ?hs ?_); (case hs => exact rfl))
  | with_reducible refine ite_t ?_
  | with_reducible refine ite_f ?_
  | with_reducible refine ite_nt ?_
  | with_reducible refine ite_nf ?_)
local macro_rules | `(tactic| walk_at "st") => `(tactic| repeat (walk_at "s1"))
local macro_rules | `(tactic| walk_at "su") => `(tactic| first
  | with_reducible refine r_seq ?_
  | with_reducible refine r_asgN ?_
  | with_reducible refine r_ret ?_
  | with_reducible refine r_next ?_
  | ((with_reducible refine' r_var ?hv ?_); (case hv => exact rfl))
  | with_reducible refine r_c ?_
  | with_reducible refine r_op ?_
  | with_reducible refine r_cons ?_
  | with_reducible refine r_nil ?_
  | with_reducible refine r_plusI ?_
  | with_reducible refine r_I0 ?_
  | with_reducible refine r_test ?_
  | with_reducible refine r_bl ?_
  | with_reducible refine r_cb ?_
  | with_reducible refine r_callS ?_
  | with_reducible refine r_and ?_
  | with_reducible refine r_or ?_
  | with_reducible refine r_not ?_
  | with_reducible refine r_B ?_
  | ((with_reducible refine' r_aug ?hv ?_); (case hv => exact rfl))
  | with_reducible refine r_augS ?_
  | with_reducible refine r_ipI ?_
  | with_reducible refine r_asg ?_
  | with_reducible refine r_sub ?_
  | with_reducible refine r_brk ?_
  | with_reducible refine r_isN1 ?_
  | with_reducible refine r_notN1 ?_
  | with_reducible refine r_intI ?_
  | with_reducible refine r_abs ?_
  | with_reducible refine r_min ?_
  | with_reducible refine r_max ?_
  | ((with_reducible refine' r_mod ?hz ?_); (case hz => omega))
  | ((with_reducible refine' r_pow ?hz ?_); (case hz => exact ⟨by decide, by decide, by decide⟩))
  | ((with_reducible refine' r_rg1 ?hz ?_); (case hz => omega))
  | ((with_reducible refine' r_rg2 ?hz ?_); (case hz => omega))
  | ((with_reducible refine' r_newL ?hz ?_); (case hz => exact Nat.le_of_ble_eq_true rfl))
  | ((with_reducible refine' r_newT ?hz ?_); (case hz => exact Nat.le_of_ble_eq_true rfl))
  | with_reducible refine r_for ?_
  | with_reducible refine r_lc ?_
  | with_reducible refine r_iR1 ?_
  | with_reducible refine r_iR2 ?_
  | with_reducible refine r_iL ?_
  | with_reducible refine r_iT ?_
  | with_reducible refine r_gname ?_
  | with_reducible refine r_gcons ?_
  | with_reducible refine r_gnil ?_
  | with_reducible refine r_yes ?_
  | with_reducible refine r_mkO ?_
  | with_reducible refine r_cont ?_
  | with_reducible refine r_drop ?_
  | with_reducible refine r_retN ?_
  | with_reducible refine r_ifC ?_
  | with_reducible refine r_ifI ?_
  | with_reducible refine r_if ?_
  | with_reducible refine r_un ?_
  | with_reducible refine r_neg ?_
  | with_reducible refine r_andV ?_
  | with_reducible refine r_orV ?_
  | with_reducible refine r_notV ?_
  | with_reducible refine r_tup ?_
  | with_reducible refine r_lst ?_
  | with_reducible refine r_bm ?_
  | with_reducible refine r_bm0 ?_
  | with_reducible refine r_sl ?_
  | with_reducible refine r_chain ?_
  | with_reducible refine r_listDn ?_
  | with_reducible refine r_listRg2 ?_
  | with_reducible refine r_listRg1 ?_
  | with_reducible refine r_revL ?_
  | with_reducible refine r_noPart ?_
  | with_reducible refine r_meth ?_
  | with_reducible refine r_methE ?_
  | with_reducible refine r_js ?_
  | with_reducible refine r_jsC ?_
  | with_reducible refine r_jsN ?_
  | with_reducible refine r_fmt ?_
  | with_reducible refine r_fld ?_
  | with_reducible refine r_sfld ?_
  | with_reducible refine r_make ?_
  | with_reducible refine r_m1 ?_
  | with_reducible refine r_m1s ?_
  | with_reducible refine r_iS ?_
  | with_reducible refine r_iE ?_
  | with_reducible refine r_si ?_
  | with_reducible refine r_strS ?_
  | with_reducible refine r_dgt ?_
  | with_reducible refine r_din ?_
  | with_reducible refine r_dnin ?_
  | with_reducible refine r_dput ?_
  | with_reducible refine r_dnew ?_
  | with_reducible refine r_disp1 ?_
  | with_reducible refine r_lenSet ?_
  | with_reducible refine r_get2 ?_
  | with_reducible refine r_get1 ?_
  | with_reducible refine r_daug ?_
  | with_reducible refine r_iR3 ?_
  | with_reducible refine r_prC ?_
  | with_reducible refine r_prN ?_
  | with_reducible refine r_part ?_
  | with_reducible refine r_int ?_
  | ((with_reducible refine' r_sameS ?hs ?_); (case hs => exact rfl))
  | ((with_reducible refine' r_otherS ?hs ?_); (case hs => exact rfl))
  | with_reducible refine ite_t ?_
  | with_reducible refine ite_f ?_
  | with_reducible refine ite_nt ?_
  | with_reducible refine ite_nf ?_)
local macro_rules | `(tactic| walk_at "sv") => `(tactic| repeat (walk_at "su"))

section
variable {P : Program} {w : World} {K : PySem.W.Frag} {mg : Str → Option Value} {base : Heap}
theorem flI1 (l : List Int) : (l.map V.int).all flatV = true := by
  rw [List.all_eq_true]
  intro x hx
  obtain ⟨i, _, rfl⟩ := List.mem_map.mp hx
  rfl
theorem inV_ints1 {z : Int} {l : List Int} : inV (.int z) (l.map V.int) = decide (z ∈ l) := by
  unfold inV
  rw [Bool.eq_iff_iff, List.any_eq_true, decide_eq_true_iff]
  constructor
  · rintro ⟨x, hx, e⟩
    obtain ⟨i, hi, rfl⟩ := List.mem_map.mp hx
    have : (i == z) = true := e
    rw [← eq_of_beq this]
    exact hi
  · intro h
    exact ⟨.int z, List.mem_map.mpr ⟨z, h, rfl⟩, by show (z == z) = true; simp⟩
theorem r_ninT1 {K : PySem.W.Frag} {H : Hp} {Q : VK} {p : Addr} {l : List Int} {z : Int} (h : SqT K H p (l.map V.int)) (k : Q (.bl (!decide (z ∈ l))) H) : rIn K true (.int z) (.ref p) H Q :=
  ⟨p, _, rfl, .inr h, rfl, flI1 l, by rw [inV_ints1]; exact k⟩

/-! ### right steps, ways, rows: data of any kind -/
section
variable {K : PySem.W.Frag} {H : Hp} {x : V} {ds : List PyData} {xs : List V} {d : PyData}
theorem dp_tupE (h : Dp K H x (.tuple ds)) : ∃ p xs, x = .ref p ∧ SqT K H p xs ∧ DpAll K H xs ds := by
  cases h with
  | tup h hs => exact ⟨_, _, rfl, h, hs⟩
theorem dp_lstE (h : Dp K H x (.list ds)) : ∃ p xs, x = .ref p ∧ SqL K H p xs ∧ DpAll K H xs ds := by
  cases h with
  | lst h hs => exact ⟨_, _, rfl, h, hs⟩
theorem dp_strE {s : Str} (h : Dp K H x (.str s)) : x = .str s := by cases h; rfl
theorem dp_intE {i : Int} (h : Dp K H x (.int i)) : x = .int i := by cases h; rfl
theorem dpa_consE (h : DpAll K H xs (d :: ds)) : ∃ x ys, xs = x :: ys ∧ Dp K H x d ∧ DpAll K H ys ds := by
  cases h with
  | cons a b => exact ⟨_, _, rfl, a, b⟩
theorem dpa_nilE (h : DpAll K H xs []) : xs = [] := by cases h; rfl
end
def wholeB : PyData → Bool
  | .int _ => true
  | _ => false
def countB : PyData → Bool
  | .int n => decide (0 ≤ n)
  | _ => false
def kindB : PyData → Nat → Bool
  | .tuple (.str _ :: r), n => decide (r.length + 1 = n)
  | _, _ => false
def step3 (k : Str) (a s : Int) : Bool := (decide (s = 1) || decide (s = -1)) && (if k = "head" then decide (0 ≤ a) else if k = "tail" then decide (1 ≤ a) else decide (k = "here"))
def step3D (k : Str) (a b : PyData) : Bool := match a with
  | .int i => (match b with | .int s => step3 k i s | _ => false)
  | _ => false
def stepB : PyData → Bool
  | .tuple [.str k, a] => decide (k = "go") && wholeB a
  | .tuple [.str k, a, b] => step3D k a b
  | _ => false
def stepsB : PyData → Bool
  | .list l => l.all stepB
  | _ => false
def wayB : PyData → Bool
  | .tuple [.str b, l] => decide (b ∈ (["front", "end"] : List Str)) && stepsB l
  | _ => false
def waysB : PyData → Bool
  | .list l => l.all wayB
  | _ => false
def row3D (k : Str) (a b : PyData) : Bool := if k = "leaf" then countB a && countB b else decide (k = "find") && (countB a && waysB b)
def row4D (k : Str) (a b c : PyData) : Bool := decide (k = "tie") && (countB a && (countB b && wholeB c))
def rowB : PyData → Bool
  | .tuple [.str k, a, b] => row3D k a b
  | .tuple [.str k, a, b, c] => row4D k a b c
  | _ => false
theorem kind_ok {d : PyData} {n : Nat} (h : kindB d n = true) : ∃ k r, d = .tuple (.str k :: r) ∧ r.length + 1 = n := by
  cases d with
  | tuple ds =>
    cases ds with
    | nil => cases h
    | cons a r =>
      cases a with
      | str k => exact ⟨k, r, rfl, of_decide_eq_true h⟩
      | _ => cases h
  | _ => cases h
theorem kind2 {d : PyData} (h : kindB d 2 = true) : ∃ k a, d = .tuple [.str k, a] := by
  obtain ⟨k, r, rfl, l⟩ := kind_ok h
  match r, l with
  | [a], _ => exact ⟨k, a, rfl⟩
theorem kind3 {d : PyData} (h : kindB d 3 = true) : ∃ k a b, d = .tuple [.str k, a, b] := by
  obtain ⟨k, r, rfl, l⟩ := kind_ok h
  match r, l with
  | [a, b], _ => exact ⟨k, a, b, rfl⟩
theorem kind4 {d : PyData} (h : kindB d 4 = true) : ∃ k a b c, d = .tuple [.str k, a, b, c] := by
  obtain ⟨k, r, rfl, l⟩ := kind_ok h
  match r, l with
  | [a, b, c], _ => exact ⟨k, a, b, c, rfl⟩
theorem decStr {a b : Str} : decide (V.str a = V.str b) = decide (a = b) := by
  by_cases h : a = b
  · simp [h]
  · rw [decide_eq_false h, decide_eq_false (fun z => h (V.str.inj z))]
def spTst (K : PySem.W.Frag) (f : PyData → Bool) : Sp := fun vs H Q _ => ∃ (x : V) (d : PyData), vs = [x] ∧ Dp K H x d ∧ ∀ H', Ext H H' → Q (.bl (f d)) H'
def spKind (K : PySem.W.Frag) : Sp := fun vs H Q _ => ∃ (x : V) (d : PyData) (n : Nat), vs = [x, .int (n : Nat)] ∧ 2 ≤ n ∧ Dp K H x d ∧ ∀ H', Ext H H' → Q (.bl (kindB d n)) H'
theorem tyN {d : PyData} {b : String} : isB (tyD d) b = isB (tyD d) b := rfl
theorem sc_is_whole : FnScope ["number"] ["number"] (defScope s_is_whole) := ⟨rfl, rfl, rfl, by decide +kernel, rfl, by decide +kernel, by decide +kernel⟩
theorem ok_is_whole (T : Txt w K mg) : CalG P w K mg base 1 "is_whole" ["number"] (spTst K wholeB) := by
  refine calG_of T.g_is_whole T.d_is_whole sc_is_whole (fun _ _ _ _ _ _ _ us hl => match us, hl with | [_], _ => rfl) (fun vs H Q E h => by obtain ⟨_, _, rfl, _⟩ := h; rfl) (fun cdv A outer s H vs Q E hr h => ?_)
  have nd := sc_is_whole.nd
  have hu := hu64 hr
  obtain ⟨x, d, rfl, hx, k⟩ := h
  refine ⟨_, (pss_one (ps_ret (pe_and (pe_callB (isiK (K := K)) (by rfl) T.f_isinstance (by decide +kernel) (pa_cons (pv 0) (pa_cons (pe_ty T.f_int) pa_nil))) (pe_one (pe_not (pe_callB (isiK (K := K)) (by rfl) T.f_isinstance (by decide +kernel) (pa_cons (pv 0) (pa_cons (pe_ty T.f_bool) pa_nil)))))))), ?_⟩
  walk_at "st"
  refine r_isi (b := "int") hx (by simp) ?_
  have k := k H .rfl
  cases d with
  | int i =>
    rw [show isB (tyD (.int i)) "int" = true by simp [isB, tyD]]
    walk_at "st"
    refine r_isi (b := "bool") hx (by simp) ?_
    rw [show isB (tyD (.int i)) "bool" = false by simp [isB, tyD]]
    walk_at "st"
    exact k
  | bool b =>
    rw [show isB (tyD (.bool b)) "int" = true by simp [isB, tyD]]
    walk_at "st"
    refine r_isi (b := "bool") hx (by simp) ?_
    rw [show isB (tyD (.bool b)) "bool" = true by simp [isB, tyD]]
    walk_at "st"
    exact k
  | none => rw [show isB (tyD .none) "int" = false by simp [isB, tyD]]; walk_at "st"; exact k
  | str s => rw [show isB (tyD (.str s)) "int" = false by simp [isB, tyD]]; walk_at "st"; exact k
  | list l => rw [show isB (tyD (.list l)) "int" = false by simp [isB, tyD]]; walk_at "st"; exact k
  | tuple l => rw [show isB (tyD (.tuple l)) "int" = false by simp [isB, tyD]]; walk_at "st"; exact k
  | dict l => cases hx
theorem sc_is_count : FnScope ["number"] ["number"] (defScope s_is_count) := ⟨rfl, rfl, rfl, by decide +kernel, rfl, by decide +kernel, by decide +kernel⟩
theorem ok_is_count (T : Txt w K mg) : CalG P w K mg base 2 "is_count" ["number"] (spTst K countB) := by
  have c_is_whole := ok_is_whole (P := P) (base := base) T
  refine calG_of T.g_is_count T.d_is_count sc_is_count (fun _ _ _ _ _ _ _ us hl => match us, hl with | [_], _ => rfl) (fun vs H Q E h => by obtain ⟨_, _, rfl, _⟩ := h; rfl) (fun cdv A outer s H vs Q E hr h => ?_)
  have nd := sc_is_count.nd
  have hu := hu64 hr
  obtain ⟨x, d, rfl, hx, k⟩ := h
  refine ⟨_, (pss_one (ps_ret (pe_and (pe_cal c_is_whole hr (by omega) (fun σ => L2N.passAt (L2N.takes_of rfl rfl rfl rfl) σ) (pa_cons (pv 0) pa_nil)) (pe_one (pe_cmpR op_ge (pv 0) pe_int (nomark _)))))), ?_⟩
  walk_at "st"
  refine ⟨x, d, rfl, hx, fun H1 e1 => ?_⟩
  have k := k H1 e1
  cases d with
  | int i =>
    walk_at "st"
    obtain rfl := dp_intE hx
    refine ite_t ?_
    walk_at "st"
    exact k
  | bool b => refine ⟨false, rfl, ite_f ?_⟩; exact k
  | none => refine ⟨false, rfl, ite_f ?_⟩; exact k
  | str s => refine ⟨false, rfl, ite_f ?_⟩; exact k
  | list l => refine ⟨false, rfl, ite_f ?_⟩; exact k
  | tuple l => refine ⟨false, rfl, ite_f ?_⟩; exact k
  | dict l => cases hx
theorem sc_is_kind : FnScope ["row", "length"] ["row", "length"] (defScope s_is_kind) := ⟨rfl, rfl, rfl, by decide +kernel, rfl, by decide +kernel, by decide +kernel⟩
theorem ok_is_kind (T : Txt w K mg) : CalG P w K mg base 1 "is_kind" ["row", "length"] (spKind K) := by
  refine calG_of T.g_is_kind T.d_is_kind sc_is_kind (fun _ _ _ _ _ _ _ us hl => match us, hl with | [_, _], _ => rfl) (fun vs H Q E h => by obtain ⟨_, _, _, rfl, _⟩ := h; rfl) (fun cdv A outer s H vs Q E hr h => ?_)
  have nd := sc_is_kind.nd
  have hu := hu64 hr
  obtain ⟨x, d, n, rfl, hn, hx, k⟩ := h
  refine ⟨_, (pss_one (ps_ret (pe_and (pe_callB (isiK (K := K)) (by rfl) T.f_isinstance (by decide +kernel) (pa_cons (pv 0) (pa_cons (pe_ty T.f_tuple) pa_nil))) (pe_and (pe_cmpR (sameK (K := K) hu) (pe_callB (lenK (K := K)) (by rfl) T.f_len boot_len (pa_cons (pv 0) pa_nil)) (pv 1) (nomark _)) (pe_one (pe_callB (isiK (K := K)) (by rfl) T.f_isinstance (by decide +kernel) (pa_cons (pe_ix (ixK (K := K)) (pv 0) pe_int (fun _ _ => rfl)) (pa_cons (pe_ty T.f_str) pa_nil)))))))), ?_⟩
  walk_at "st"
  refine r_isi (b := "tuple") hx (by simp) ?_
  have k := k H .rfl
  cases d with
  | tuple ds =>
    rw [show isB (tyD (.tuple ds)) "tuple" = true by simp [isB, tyD]]
    walk_at "st"
    obtain ⟨p, xs, rfl, hp, hs⟩ := dp_tupE hx
    have hl := dps_len hs
    refine r_lenT hp (n := (ds.length : Nat)) (by rw [hl]) ?_
    walk_at "st"
    by_cases c : ds.length = n
    · rw [decide_eq_true (show V.int (ds.length : Nat) = V.int (n : Nat) by rw [c])]
      walk_at "st"
      cases ds with
      | nil => exact absurd c (by show ¬ 0 = n; omega)
      | cons a r =>
        obtain ⟨y, ys, rfl, ha, hr'⟩ := dpa_consE hs
        refine r_atT hp (atI_nat (j := 0) rfl) ?_
        walk_at "st"
        refine r_isi (b := "str") ha (by simp) ?_
        cases a with
        | str s =>
          have e : kindB (.tuple (.str s :: r)) n = true := decide_eq_true c
          rw [e] at k
          rw [show isB (tyD (.str s)) "str" = true by simp [isB, tyD]]
          exact k
        | none => exact k
        | bool b => exact k
        | int i => exact k
        | list l => exact k
        | tuple l => exact k
        | dict l => cases ha
    · rw [decide_eq_false (show ¬ V.int (ds.length : Nat) = V.int (n : Nat) from fun z => c (by have := V.int.inj z; omega))]
      walk_at "st"
      have e : kindB (.tuple ds) n = false := by
        cases ds with
        | nil => rfl
        | cons a r =>
          cases a with
          | str s => exact decide_eq_false c
          | _ => rfl
      rw [e] at k
      exact k
  | none => rw [show isB (tyD .none) "tuple" = false by simp [isB, tyD]]; walk_at "st"; exact k
  | bool b => rw [show isB (tyD (.bool b)) "tuple" = false by simp [isB, tyD]]; walk_at "st"; exact k
  | int i => rw [show isB (tyD (.int i)) "tuple" = false by simp [isB, tyD]]; walk_at "st"; exact k
  | str s => rw [show isB (tyD (.str s)) "tuple" = false by simp [isB, tyD]]; walk_at "st"; exact k
  | list l => rw [show isB (tyD (.list l)) "tuple" = false by simp [isB, tyD]]; walk_at "st"; exact k
  | dict l => cases hx
theorem sc_right_step : FnScope ["step"] ["step"] (defScope s_right_step) := ⟨rfl, rfl, rfl, by decide +kernel, rfl, by decide +kernel, by decide +kernel⟩
theorem ok_right_step (T : Txt w K mg) : CalG P w K mg base 2 "right_step" ["step"] (spTst K stepB) := by
  have c_is_whole := ok_is_whole (P := P) (base := base) T
  have c_is_kind := ok_is_kind (P := P) (base := base) T
  refine calG_of T.g_right_step T.d_right_step sc_right_step (fun _ _ _ _ _ _ _ us hl => match us, hl with | [_], _ => rfl) (fun vs H Q E h => by obtain ⟨_, _, rfl, _⟩ := h; rfl) (fun cdv A outer s H vs Q E hr h => ?_)
  have nd := sc_right_step.nd
  have hu := hu64 hr
  obtain ⟨x, d, rfl, hx, k⟩ := h
  refine ⟨_, (pss_cons (ps_if (pt_val (pe_cal c_is_kind hr (by omega) (fun σ => L2N.passAt (L2N.takes_of rfl rfl rfl rfl) σ) (pa_cons (pv 0) (pa_cons pe_int pa_nil)))) (pss_one (ps_ret (pe_and (pe_cmpR (sameK (K := K) hu) (pe_ix (ixK (K := K)) (pv 0) pe_int (fun _ _ => rfl)) pe_str (nomark _)) (pe_one (pe_cal c_is_whole hr (by omega) (fun σ => L2N.passAt (L2N.takes_of rfl rfl rfl rfl) σ) (pa_cons (pe_ix (ixK (K := K)) (pv 0) pe_int (fun _ _ => rfl)) pa_nil)))))) pss_nil)
        (pss_cons (ps_if (PW.pt (pw_or (pt_not (pt_val (pe_cal c_is_kind hr (by omega) (fun σ => L2N.passAt (L2N.takes_of rfl rfl rfl rfl) σ) (pa_cons (pv 0) (pa_cons pe_int pa_nil))))) (pw_or (pt_not (pt_val (pe_cal c_is_whole hr (by omega) (fun σ => L2N.passAt (L2N.takes_of rfl rfl rfl rfl) σ) (pa_cons (pe_ix (ixK (K := K)) (pv 0) pe_int (fun _ _ => rfl)) pa_nil)))) (pw_or1 (pt_not (pt_val (pe_cal c_is_whole hr (by omega) (fun σ => L2N.passAt (L2N.takes_of rfl rfl rfl rfl) σ) (pa_cons (pe_ix (ixK (K := K)) (pv 0) pe_int (fun _ _ => rfl)) pa_nil)))))))) (pss_one (ps_ret pe_bl)) pss_nil)
        (pss_cons (ps_if (pt_cmpR (notInK (K := K)) (pe_ix (ixK (K := K)) (pv 0) pe_int (fun _ _ => rfl)) (pe_tup (pa_cons pe_int (pa_cons (pe_un un_neg pe_int) pa_nil))) (by rfl)) (pss_one (ps_ret pe_bl)) pss_nil)
        (pss_cons (ps_if (pt_cmpR (sameK (K := K) hu) (pe_ix (ixK (K := K)) (pv 0) pe_int (fun _ _ => rfl)) pe_str (nomark _)) (pss_one (ps_ret (pe_cmpR op_ge (pe_ix (ixK (K := K)) (pv 0) pe_int (fun _ _ => rfl)) pe_int (nomark _)))) pss_nil)
        (pss_cons (ps_if (pt_cmpR (sameK (K := K) hu) (pe_ix (ixK (K := K)) (pv 0) pe_int (fun _ _ => rfl)) pe_str (nomark _)) (pss_one (ps_ret (pe_cmpR op_ge (pe_ix (ixK (K := K)) (pv 0) pe_int (fun _ _ => rfl)) pe_int (nomark _)))) pss_nil)
        (pss_one (ps_ret (pe_cmpR (sameK (K := K) hu) (pe_ix (ixK (K := K)) (pv 0) pe_int (fun _ _ => rfl)) pe_str (nomark _))))))))), ?_⟩
  walk_at "st"
  refine ⟨x, d, 2, rfl, by decide, hx, fun H1 e1 => ?_⟩
  walk_at "st"
  refine ite_b (fun c => ?_) (fun c => ?_)
  · obtain ⟨kd, a, rfl⟩ := kind2 c
    obtain ⟨p, xs, rfl, hp, hs⟩ := dp_tupE hx
    obtain ⟨y, ys, rfl, hy, hs⟩ := dpa_consE hs
    obtain ⟨z, zs, rfl, hz, hs⟩ := dpa_consE hs
    obtain rfl := dp_strE hy
    walk_at "st"
    refine r_atT (e1.tu hp) (atI_nat (j := 0) rfl) ?_
    walk_at "st"
    by_cases c2 : kd = "go"
    · subst c2
      rw [decide_eq_true (show V.str "go" = V.str "go" from rfl)]
      walk_at "st"
      refine r_atT (e1.tu hp) (atI_nat (j := 1) rfl) ?_
      walk_at "st"
      refine ⟨z, a, rfl, e1.dp _ hz, fun H2 e2 => ?_⟩
      have k := k H2 (e1.trans e2)
      have e : stepB (.tuple [.str "go", a]) = wholeB a := by show (decide (("go" : Str) = "go") && wholeB a) = _; rw [decide_eq_true rfl]; rfl
      rw [e] at k
      exact k
    · rw [decide_eq_false (show ¬ V.str kd = V.str "go" from fun z => c2 (V.str.inj z))]
      walk_at "st"
      have k := k H1 e1
      have e : stepB (.tuple [.str kd, a]) = false := by show (decide (kd = "go") && wholeB a) = _; rw [decide_eq_false c2]; rfl
      rw [e] at k
      exact k
  walk_at "st"
  refine ⟨x, d, 3, rfl, by decide, e1.dp _ hx, fun H2 e2 => ?_⟩
  have e12 := e1.trans e2
  walk_at "st"
  cases c3 : kindB d 3 with
  | false =>
    walk_at "st"
    have k := k H2 e12
    have e : stepB d = false := by
      cases d with
      | tuple ds =>
        match ds with
        | [] => rfl
        | [a] => cases a <;> rfl
        | [a, b] =>
          cases a with
          | str s => exact absurd c (by show ¬ decide (1 + 1 = 2) = false; decide)
          | _ => rfl
        | [a, b, c] =>
          cases a with
          | str s => exact absurd c3 (by show ¬ decide (2 + 1 = 3) = false; decide)
          | _ => rfl
        | a :: b :: c :: e :: r => cases a <;> rfl
      | _ => rfl
    rw [e] at k
    exact k
  | true =>
    obtain ⟨kd, a, b, rfl⟩ := kind3 c3
    obtain ⟨p, xs, rfl, hp, hs⟩ := dp_tupE hx
    obtain ⟨y, ys, rfl, hy, hs⟩ := dpa_consE hs
    obtain ⟨z, zs, rfl, hz, hs⟩ := dpa_consE hs
    obtain ⟨u, us, rfl, hu', hs⟩ := dpa_consE hs
    obtain rfl := dp_strE hy
    walk_at "st"
    refine r_atT (e12.tu hp) (atI_nat (j := 1) rfl) ?_
    walk_at "st"
    refine ⟨z, a, rfl, e12.dp _ hz, fun H3 e3 => ?_⟩
    have e13 := e12.trans e3
    walk_at "st"
    cases ca : wholeB a with
    | false =>
      walk_at "st"
      have k := k H3 e13
      have e : stepB (.tuple [.str kd, a, b]) = false := by
        cases a with
        | int i => cases ca
        | _ => rfl
      rw [e] at k
      exact k
    | true =>
      cases a with
      | int i =>
        obtain rfl := dp_intE hz
        walk_at "st"
        refine r_atT (e13.tu hp) (atI_nat (j := 2) rfl) ?_
        walk_at "st"
        refine ⟨u, b, rfl, e13.dp _ hu', fun H4 e4 => ?_⟩
        have e14 := e13.trans e4
        walk_at "st"
        cases cb : wholeB b with
        | false =>
          walk_at "st"
          have k := k H4 e14
          have e : stepB (.tuple [.str kd, .int i, b]) = false := by
            cases b with
            | int i => cases cb
            | _ => rfl
          rw [e] at k
          exact k
        | true =>
          cases b with
          | int sg =>
            obtain rfl := dp_intE hu'
            walk_at "st"
            refine r_atT (e14.tu hp) (atI_nat (j := 2) rfl) ?_
            walk_at "st"
            intro t H5 ht e5 h5
            refine r_ninT1 (l := [1, -1]) (sqT h5) ?_
            walk_at "st"
            have e15 := e14.trans e5
            refine ite_n (fun c => ?_) (fun c => ?_)
            · walk_at "st"
              have k := k H5 e15
              have e : stepB (.tuple [.str kd, .int i, .int sg]) = false := by
                show ((decide (sg = 1) || decide (sg = -1)) && _) = false
                rw [decide_eq_false (fun z => c (by rw [z]; simp)), decide_eq_false (fun z => c (by rw [z]; simp))]
                rfl
              rw [e] at k
              exact k
            · have e : stepB (.tuple [.str kd, .int i, .int sg]) = (if kd = "head" then decide (0 ≤ i) else if kd = "tail" then decide (1 ≤ i) else decide (kd = "here")) := by
                show ((decide (sg = 1) || decide (sg = -1)) && _) = _
                have : (decide (sg = 1) || decide (sg = -1)) = true := by
                  simp only [List.mem_cons, List.not_mem_nil, or_false] at c
                  rcases c with c | c
                  · rw [decide_eq_true c]; rfl
                  · rw [decide_eq_true c, Bool.or_true]
                rw [this, Bool.true_and]
              rw [e] at k
              walk_at "st"
              refine r_atT (e15.tu hp) (atI_nat (j := 0) rfl) ?_
              walk_at "st"
              refine ite_d (fun c1 => ?_) (fun c1 => ?_)
              · rw [if_pos (V.str.inj c1)] at k
                walk_at "st"
                refine r_atT (e15.tu hp) (atI_nat (j := 1) rfl) ?_
                walk_at "st"
                exact k H5 e15
              have c1' : ¬ kd = "head" := fun z => c1 (congrArg V.str z)
              rw [if_neg c1'] at k
              walk_at "st"
              refine r_atT (e15.tu hp) (atI_nat (j := 0) rfl) ?_
              walk_at "st"
              refine ite_d (fun c2 => ?_) (fun c2 => ?_)
              · rw [if_pos (V.str.inj c2)] at k
                walk_at "st"
                refine r_atT (e15.tu hp) (atI_nat (j := 1) rfl) ?_
                walk_at "st"
                exact k H5 e15
              have c2' : ¬ kd = "tail" := fun z => c2 (congrArg V.str z)
              rw [if_neg c2'] at k
              walk_at "st"
              refine r_atT (e15.tu hp) (atI_nat (j := 0) rfl) ?_
              walk_at "st"
              rw [decStr]
              exact k H5 e15
          | _ => cases cb
      | _ => cases ca

end
end K35
set_option maxRecDepth 100000
set_option maxHeartbeats 4000000
namespace K35
open PySem PySem.Spec PyProof.Rows L2 L3
local macro_rules | `(tactic| walk_at "s1") => `(tactic| first
  | with_reducible refine r_seq ?_
  | with_reducible refine r_asgN ?_
  | with_reducible refine r_ret ?_
  | with_reducible refine r_next ?_
  | ((with_reducible refine' r_var ?hv ?_); (case hv => exact rfl))
  | with_reducible refine r_c ?_
  | with_reducible refine r_op ?_
  | with_reducible refine r_cons ?_
  | with_reducible refine r_nil ?_
  | with_reducible refine r_plusI ?_
  | with_reducible refine r_I0 ?_
  | with_reducible refine r_test ?_
  | with_reducible refine r_bl ?_
  | with_reducible refine r_ifS ?_
  | with_reducible refine r_cb ?_
  | with_reducible refine r_callS ?_
  | with_reducible refine r_and ?_
  | with_reducible refine r_or ?_
  | with_reducible refine r_not ?_
  | with_reducible refine r_B ?_
  | ((with_reducible refine' r_aug ?hv ?_); (case hv => exact rfl))
  | with_reducible refine r_augS ?_
  | with_reducible refine r_ipI ?_
  | with_reducible refine r_asg ?_
  | with_reducible refine r_sub ?_
  | with_reducible refine r_brk ?_
  | with_reducible refine r_isN1 ?_
  | with_reducible refine r_notN1 ?_
  | with_reducible refine r_intI ?_
  | with_reducible refine r_abs ?_
  | with_reducible refine r_min ?_
  | with_reducible refine r_max ?_
  | ((with_reducible refine' r_mod ?hz ?_); (case hz => omega))
  | ((with_reducible refine' r_pow ?hz ?_); (case hz => exact ⟨by decide, by decide, by decide⟩))
  | ((with_reducible refine' r_rg1 ?hz ?_); (case hz => omega))
  | ((with_reducible refine' r_rg2 ?hz ?_); (case hz => omega))
  | ((with_reducible refine' r_newL ?hz ?_); (case hz => exact Nat.le_of_ble_eq_true rfl))
  | ((with_reducible refine' r_newT ?hz ?_); (case hz => exact Nat.le_of_ble_eq_true rfl))
  | with_reducible refine r_for ?_
  | with_reducible refine r_lc ?_
  | with_reducible refine r_iR1 ?_
  | with_reducible refine r_iR2 ?_
  | with_reducible refine r_iL ?_
  | with_reducible refine r_iT ?_
  | with_reducible refine r_gname ?_
  | with_reducible refine r_gcons ?_
  | with_reducible refine r_gnil ?_
  | with_reducible refine r_yes ?_
  | with_reducible refine r_mkO ?_
  | with_reducible refine r_cont ?_
  | with_reducible refine r_drop ?_
  | with_reducible refine r_retN ?_
  | with_reducible refine r_ifC ?_
  | with_reducible refine r_ifI ?_
  | with_reducible refine r_if ?_
  | with_reducible refine r_un ?_
  | with_reducible refine r_neg ?_
  | with_reducible refine r_andV ?_
  | with_reducible refine r_orV ?_
  | with_reducible refine r_notV ?_
  | with_reducible refine r_tup ?_
  | with_reducible refine r_lst ?_
  | with_reducible refine r_bm ?_
  | with_reducible refine r_bm0 ?_
  | with_reducible refine r_sl ?_
  | with_reducible refine r_chain ?_
  | with_reducible refine r_listDn ?_
  | with_reducible refine r_listRg2 ?_
  | with_reducible refine r_listRg1 ?_
  | with_reducible refine r_revL ?_
  | with_reducible refine r_noPart ?_
  | with_reducible refine r_meth ?_
  | with_reducible refine r_methE ?_
  | with_reducible refine r_js ?_
  | with_reducible refine r_jsC ?_
  | with_reducible refine r_jsN ?_
  | with_reducible refine r_fmt ?_
  | with_reducible refine r_fld ?_
  | with_reducible refine r_sfld ?_
  | with_reducible refine r_make ?_
  | with_reducible refine r_m1 ?_
  | with_reducible refine r_m1s ?_
  | with_reducible refine r_iS ?_
  | with_reducible refine r_iE ?_
  | with_reducible refine r_si ?_
  | with_reducible refine r_strS ?_
  | with_reducible refine r_dgt ?_
  | with_reducible refine r_din ?_
  | with_reducible refine r_dnin ?_
  | with_reducible refine r_dput ?_
  | with_reducible refine r_dnew ?_
  | with_reducible refine r_disp1 ?_
  | with_reducible refine r_lenSet ?_
  | with_reducible refine r_get2 ?_
  | with_reducible refine r_get1 ?_
  | with_reducible refine r_daug ?_
  | with_reducible refine r_iR3 ?_
  | with_reducible refine r_prC ?_
  | with_reducible refine r_prN ?_
  | with_reducible refine r_part ?_
  | with_reducible refine r_int ?_
  | ((with_reducible refine' r_sameS ?hs ?_); (case hs => exact rfl))
  | ((with_reducible refine' r_otherS ?hs ?_); (case hs => exact rfl))
  | with_reducible refine ite_t ?_
  | with_reducible refine ite_f ?_
  | with_reducible refine ite_nt ?_
  | with_reducible refine ite_nf ?_)
local macro_rules | `(tactic| walk_at "st") => `(tactic| repeat (walk_at "s1"))
local macro_rules | `(tactic| walk_at "su") => `(tactic| first
  | with_reducible refine r_seq ?_
  | with_reducible refine r_asgN ?_
  | with_reducible refine r_ret ?_
  | with_reducible refine r_next ?_
  | ((with_reducible refine' r_var ?hv ?_); (case hv => exact rfl))
  | with_reducible refine r_c ?_
  | with_reducible refine r_op ?_
  | with_reducible refine r_cons ?_
  | with_reducible refine r_nil ?_
  | with_reducible refine r_plusI ?_
  | with_reducible refine r_I0 ?_
  | with_reducible refine r_test ?_
  | with_reducible refine r_bl ?_
  | with_reducible refine r_cb ?_
  | with_reducible refine r_callS ?_
  | with_reducible refine r_and ?_
  | with_reducible refine r_or ?_
  | with_reducible refine r_not ?_
  | with_reducible refine r_B ?_
  | ((with_reducible refine' r_aug ?hv ?_); (case hv => exact rfl))
  | with_reducible refine r_augS ?_
  | with_reducible refine r_ipI ?_
  | with_reducible refine r_asg ?_
  | with_reducible refine r_sub ?_
  | with_reducible refine r_brk ?_
  | with_reducible refine r_isN1 ?_
  | with_reducible refine r_notN1 ?_
  | with_reducible refine r_intI ?_
  | with_reducible refine r_abs ?_
  | with_reducible refine r_min ?_
  | with_reducible refine r_max ?_
  | ((with_reducible refine' r_mod ?hz ?_); (case hz => omega))
  | ((with_reducible refine' r_pow ?hz ?_); (case hz => exact ⟨by decide, by decide, by decide⟩))
  | ((with_reducible refine' r_rg1 ?hz ?_); (case hz => omega))
  | ((with_reducible refine' r_rg2 ?hz ?_); (case hz => omega))
  | ((with_reducible refine' r_newL ?hz ?_); (case hz => exact Nat.le_of_ble_eq_true rfl))
  | ((with_reducible refine' r_newT ?hz ?_); (case hz => exact Nat.le_of_ble_eq_true rfl))
  | with_reducible refine r_for ?_
  | with_reducible refine r_lc ?_
  | with_reducible refine r_iR1 ?_
  | with_reducible refine r_iR2 ?_
  | with_reducible refine r_iL ?_
  | with_reducible refine r_iT ?_
  | with_reducible refine r_gname ?_
  | with_reducible refine r_gcons ?_
  | with_reducible refine r_gnil ?_
  | with_reducible refine r_yes ?_
  | with_reducible refine r_mkO ?_
  | with_reducible refine r_cont ?_
  | with_reducible refine r_drop ?_
  | with_reducible refine r_retN ?_
  | with_reducible refine r_ifC ?_
  | with_reducible refine r_ifI ?_
  | with_reducible refine r_if ?_
  | with_reducible refine r_un ?_
  | with_reducible refine r_neg ?_
  | with_reducible refine r_andV ?_
  | with_reducible refine r_orV ?_
  | with_reducible refine r_notV ?_
  | with_reducible refine r_tup ?_
  | with_reducible refine r_lst ?_
  | with_reducible refine r_bm ?_
  | with_reducible refine r_bm0 ?_
  | with_reducible refine r_sl ?_
  | with_reducible refine r_chain ?_
  | with_reducible refine r_listDn ?_
  | with_reducible refine r_listRg2 ?_
  | with_reducible refine r_listRg1 ?_
  | with_reducible refine r_revL ?_
  | with_reducible refine r_noPart ?_
  | with_reducible refine r_meth ?_
  | with_reducible refine r_methE ?_
  | with_reducible refine r_js ?_
  | with_reducible refine r_jsC ?_
  | with_reducible refine r_jsN ?_
  | with_reducible refine r_fmt ?_
  | with_reducible refine r_fld ?_
  | with_reducible refine r_sfld ?_
  | with_reducible refine r_make ?_
  | with_reducible refine r_m1 ?_
  | with_reducible refine r_m1s ?_
  | with_reducible refine r_iS ?_
  | with_reducible refine r_iE ?_
  | with_reducible refine r_si ?_
  | with_reducible refine r_strS ?_
  | with_reducible refine r_dgt ?_
  | with_reducible refine r_din ?_
  | with_reducible refine r_dnin ?_
  | with_reducible refine r_dput ?_
  | with_reducible refine r_dnew ?_
  | with_reducible refine r_disp1 ?_
  | with_reducible refine r_lenSet ?_
  | with_reducible refine r_get2 ?_
  | with_reducible refine r_get1 ?_
  | with_reducible refine r_daug ?_
  | with_reducible refine r_iR3 ?_
  | with_reducible refine r_prC ?_
  | with_reducible refine r_prN ?_
  | with_reducible refine r_part ?_
  | with_reducible refine r_int ?_
  | ((with_reducible refine' r_sameS ?hs ?_); (case hs => exact rfl))
  | ((with_reducible refine' r_otherS ?hs ?_); (case hs => exact rfl))
  | with_reducible refine ite_t ?_
  | with_reducible refine ite_f ?_
  | with_reducible refine ite_nt ?_
  | with_reducible refine ite_nf ?_)
local macro_rules | `(tactic| walk_at "sv") => `(tactic| repeat (walk_at "su"))

section
variable {P : Program} {w : World} {K : PySem.W.Frag} {mg : Str → Option Value} {base : Heap}

/-! ### right ways and rows -/
theorem kind2_no {d : PyData} (h : kindB d 2 = false) : wayB d = false := by
  cases d with
  | tuple ds =>
    match ds with
    | [] => rfl
    | [a] => cases a <;> rfl
    | [a, b] =>
      cases a with
      | str s => exact absurd h (by show ¬ decide (1 + 1 = 2) = false; decide)
      | _ => rfl
    | a :: b :: c :: r => cases a <;> rfl
  | _ => rfl
theorem row_no {d : PyData} (h3 : kindB d 3 = false) (h4 : kindB d 4 = false) : rowB d = false := by
  cases d with
  | tuple ds =>
    match ds with
    | [] => rfl
    | [a] => cases a <;> rfl
    | [a, b] => cases a <;> rfl
    | [a, b, c] =>
      cases a with
      | str s => exact absurd h3 (by show ¬ decide (2 + 1 = 3) = false; decide)
      | _ => rfl
    | [a, b, c, e] =>
      cases a with
      | str s => exact absurd h4 (by show ¬ decide (3 + 1 = 4) = false; decide)
      | _ => rfl
    | a :: b :: c :: e :: f :: r => cases a <;> rfl
  | _ => rfl
section
variable {K : PySem.W.Frag} {H : Hp} {xs : List V} {ds : List PyData}
theorem dps_at (h : DpAll K H xs ds) {i : Nat} {x : V} (e : xs[i]? = some x) : ∃ d, ds[i]? = some d ∧ Dp K H x d := by
  have hl := dps_len h
  have hi := (List.getElem?_eq_some_iff.mp e).1
  have hd : ds[i]? = some (ds[i]'(by omega)) := List.getElem?_eq_getElem _
  obtain ⟨y, hy, hd'⟩ := dps_get h hd
  rw [e] at hy
  cases hy
  exact ⟨_, hd, hd'⟩
theorem all_take {α : Type} {f : α → Bool} {l : List α} {i : Nat} {d : α} (h : (l.take i).all f = true) (hd : l[i]? = some d) (hf : f d = true) : (l.take (i + 1)).all f = true := by
  rw [List.take_succ, hd, List.all_append, h]
  show (f d && true) = true
  rw [hf]
  rfl
theorem all_no {α : Type} {f : α → Bool} {l : List α} {i : Nat} {d : α} (hd : l[i]? = some d) (hf : f d = false) : l.all f = false := Bool.eq_false_iff.mpr fun h => by
  have := List.all_eq_true.mp h d (List.mem_of_getElem? hd)
  rw [hf] at this
  cases this
end
theorem sc_right_way : FnScope ["way", "step"] ["way"] (defScope s_right_way) := ⟨rfl, rfl, rfl, by decide +kernel, rfl, by decide +kernel, by decide +kernel⟩
theorem ok_right_way (T : Txt w K mg) : CalG P w K mg base 3 "right_way" ["way"] (spTst K wayB) := by
  have c_right_step := ok_right_step (P := P) (base := base) T
  have c_is_kind := ok_is_kind (P := P) (base := base) T
  refine calG_of T.g_right_way T.d_right_way sc_right_way (fun _ _ _ _ _ _ _ us hl => match us, hl with | [_], _ => rfl) (fun vs H Q E h => by obtain ⟨_, _, rfl, _⟩ := h; rfl) (fun cdv A outer s H vs Q E hr h => ?_)
  have nd := sc_right_way.nd
  have hu := hu64 hr
  obtain ⟨x, d, rfl, hx, k⟩ := h
  refine ⟨_, (pss_cons (ps_if (PW.pt (pw_or (pt_not (pt_val (pe_cal c_is_kind hr (by omega) (fun σ => L2N.passAt (L2N.takes_of rfl rfl rfl rfl) σ) (pa_cons (pv 0) (pa_cons pe_int pa_nil))))) (pw_or (pt_cmpR (notInK (K := K)) (pe_ix (ixK (K := K)) (pv 0) pe_int (fun _ _ => rfl)) (pe_tup (pa_cons pe_str (pa_cons pe_str pa_nil))) (by rfl)) (pw_or1 (pt_not (pt_val (pe_callB (isiK (K := K)) (by rfl) T.f_isinstance (by decide +kernel) (pa_cons (pe_ix (ixK (K := K)) (pv 0) pe_int (fun _ _ => rfl)) (pa_cons (pe_ty T.f_list) pa_nil))))))))) (pss_one (ps_ret pe_bl)) pss_nil)
        (pss_cons (ps_for (passes_of rfl) rfl (piL (K := K) (pe_ix (ixK (K := K)) (pv 0) pe_int (fun _ _ => rfl))) (pg_name (i := 1) nd rfl (Or.inl rfl)) (pss_one (ps_if (pt_not (pt_val (pe_cal c_right_step hr (by omega) (fun σ => L2N.passAt (L2N.takes_of rfl rfl rfl rfl) σ) (pa_cons (pv 1) pa_nil)))) (pss_one (ps_ret pe_bl)) pss_nil)))
        (pss_one (ps_ret pe_bl)))), ?_⟩
  walk_at "st"
  refine ⟨x, d, 2, rfl, by decide, hx, fun H1 e1 => ?_⟩
  walk_at "st"
  cases c : kindB d 2 with
  | false =>
    walk_at "st"
    have k := k H1 e1
    rw [kind2_no c] at k
    exact k
  | true =>
    obtain ⟨kd, a, rfl⟩ := kind2 c
    obtain ⟨p, xs, rfl, hp, hs⟩ := dp_tupE hx
    obtain ⟨y, ys, rfl, hy, hs⟩ := dpa_consE hs
    obtain ⟨z, zs, rfl, hz, hs⟩ := dpa_consE hs
    obtain rfl := dp_strE hy
    walk_at "st"
    refine r_atT (e1.tu hp) (atI_nat (j := 0) rfl) ?_
    walk_at "st"
    intro t H2 ht e2 h2
    refine r_ninStr (ss := (["front", "end"] : List Str)) (.inr (sqT h2)) ?_
    have e12 := e1.trans e2
    walk_at "st"
    have ew : wayB (.tuple [.str kd, a]) = (decide (kd ∈ (["front", "end"] : List Str)) && stepsB a) := rfl
    rw [ew] at k
    by_cases c2 : kd ∈ (["front", "end"] : List Str)
    · rw [decide_eq_true c2, Bool.true_and] at k
      rw [decide_eq_true c2]
      walk_at "st"
      refine r_atT (e12.tu hp) (atI_nat (j := 1) rfl) ?_
      walk_at "st"
      refine r_isi (b := "list") (e12.dp _ hz) (by simp) ?_
      cases a with
      | list l =>
        rw [show isB (tyD (.list l)) "list" = true by simp [isB, tyD]]
        walk_at "st"
        refine r_atT (e12.tu hp) (atI_nat (j := 1) rfl) ?_
        obtain ⟨lp, ls, rfl, hlp, hls⟩ := dp_lstE hz
        refine r_li (e12.l hlp) ?_
        refine forW_list (fun i σ' H' => ∃ v, σ' = [some (.ref p), v] ∧ Ext H2 H' ∧ (l.take i).all stepB = true) ⟨none, rfl, .rfl, rfl⟩ (fun i σ' H' _ ⟨_, _, e, _⟩ => (e12.trans e).l hlp) ?_ ?_
        · rintro i y σ' H3 hy ⟨v, rfl, e3, hall⟩
          obtain ⟨d, hd, hyd⟩ := dps_at hls hy
          walk_at "st"
          refine ⟨y, d, rfl, (e12.trans e3).dp _ hyd, fun H4 e4 => ?_⟩
          walk_at "st"
          cases hb : stepB d with
          | false =>
            walk_at "st"
            have k := k H4 ((e12.trans e3).trans e4)
            rw [show stepsB (.list l) = false from all_no hd hb] at k
            exact k
          | true =>
            walk_at "st"
            exact ⟨_, rfl, e3.trans e4, all_take hall hd hb⟩
        · rintro σ' H3 ⟨v, rfl, e3, hall⟩
          walk_at "st"
          have k := k H3 (e12.trans e3)
          rw [show stepsB (.list l) = true by rw [dps_len hls, List.take_length] at hall; exact hall] at k
          exact k
      | none => rw [show isB (tyD .none) "list" = false by simp [isB, tyD]]; walk_at "st"; exact k H2 e12
      | bool b => rw [show isB (tyD (.bool b)) "list" = false by simp [isB, tyD]]; walk_at "st"; exact k H2 e12
      | int i => rw [show isB (tyD (.int i)) "list" = false by simp [isB, tyD]]; walk_at "st"; exact k H2 e12
      | str s => rw [show isB (tyD (.str s)) "list" = false by simp [isB, tyD]]; walk_at "st"; exact k H2 e12
      | tuple l => rw [show isB (tyD (.tuple l)) "list" = false by simp [isB, tyD]]; walk_at "st"; exact k H2 e12
      | dict l => cases hz
    · rw [decide_eq_false c2, Bool.false_and] at k
      rw [decide_eq_false c2]
      walk_at "st"
      exact k H2 e12
theorem sc_right_row : FnScope ["row", "way"] ["row"] (defScope s_right_row) := ⟨rfl, rfl, rfl, by decide +kernel, rfl, by decide +kernel, by decide +kernel⟩
theorem ok_right_row (T : Txt w K mg) : CalG P w K mg base 4 "right_row" ["row"] (spTst K rowB) := by
  have c_right_way := ok_right_way (P := P) (base := base) T
  have c_is_kind := ok_is_kind (P := P) (base := base) T
  have c_is_count := ok_is_count (P := P) (base := base) T
  have c_is_whole := ok_is_whole (P := P) (base := base) T
  refine calG_of T.g_right_row T.d_right_row sc_right_row (fun _ _ _ _ _ _ _ us hl => match us, hl with | [_], _ => rfl) (fun vs H Q E h => by obtain ⟨_, _, rfl, _⟩ := h; rfl) (fun cdv A outer s H vs Q E hr h => ?_)
  have nd := sc_right_row.nd
  have hu := hu64 hr
  obtain ⟨x, d, rfl, hx, k⟩ := h
  refine ⟨_, (pss_cons (ps_if (PW.pt (pw_and (pt_val (pe_cal c_is_kind hr (by omega) (fun σ => L2N.passAt (L2N.takes_of rfl rfl rfl rfl) σ) (pa_cons (pv 0) (pa_cons pe_int pa_nil)))) (pw_and1 (pt_cmpR (sameK (K := K) hu) (pe_ix (ixK (K := K)) (pv 0) pe_int (fun _ _ => rfl)) pe_str (nomark _))))) (pss_one (ps_ret (pe_and (pe_cal c_is_count hr (by omega) (fun σ => L2N.passAt (L2N.takes_of rfl rfl rfl rfl) σ) (pa_cons (pe_ix (ixK (K := K)) (pv 0) pe_int (fun _ _ => rfl)) pa_nil)) (pe_one (pe_cal c_is_count hr (by omega) (fun σ => L2N.passAt (L2N.takes_of rfl rfl rfl rfl) σ) (pa_cons (pe_ix (ixK (K := K)) (pv 0) pe_int (fun _ _ => rfl)) pa_nil)))))) pss_nil)
        (pss_cons (ps_if (PW.pt (pw_and (pt_val (pe_cal c_is_kind hr (by omega) (fun σ => L2N.passAt (L2N.takes_of rfl rfl rfl rfl) σ) (pa_cons (pv 0) (pa_cons pe_int pa_nil)))) (pw_and1 (pt_cmpR (sameK (K := K) hu) (pe_ix (ixK (K := K)) (pv 0) pe_int (fun _ _ => rfl)) pe_str (nomark _))))) (pss_one (ps_ret (pe_and (pe_cal c_is_count hr (by omega) (fun σ => L2N.passAt (L2N.takes_of rfl rfl rfl rfl) σ) (pa_cons (pe_ix (ixK (K := K)) (pv 0) pe_int (fun _ _ => rfl)) pa_nil)) (pe_and (pe_cal c_is_count hr (by omega) (fun σ => L2N.passAt (L2N.takes_of rfl rfl rfl rfl) σ) (pa_cons (pe_ix (ixK (K := K)) (pv 0) pe_int (fun _ _ => rfl)) pa_nil)) (pe_one (pe_cal c_is_whole hr (by omega) (fun σ => L2N.passAt (L2N.takes_of rfl rfl rfl rfl) σ) (pa_cons (pe_ix (ixK (K := K)) (pv 0) pe_int (fun _ _ => rfl)) pa_nil))))))) pss_nil)
        (pss_cons (ps_if (PW.pt (pw_or (pt_not (pt_val (pe_cal c_is_kind hr (by omega) (fun σ => L2N.passAt (L2N.takes_of rfl rfl rfl rfl) σ) (pa_cons (pv 0) (pa_cons pe_int pa_nil))))) (pw_or (pt_cmpR (otherK (K := K) hu) (pe_ix (ixK (K := K)) (pv 0) pe_int (fun _ _ => rfl)) pe_str (nomark _)) (pw_or (pt_not (pt_val (pe_cal c_is_count hr (by omega) (fun σ => L2N.passAt (L2N.takes_of rfl rfl rfl rfl) σ) (pa_cons (pe_ix (ixK (K := K)) (pv 0) pe_int (fun _ _ => rfl)) pa_nil)))) (pw_or1 (pt_not (pt_val (pe_callB (isiK (K := K)) (by rfl) T.f_isinstance (by decide +kernel) (pa_cons (pe_ix (ixK (K := K)) (pv 0) pe_int (fun _ _ => rfl)) (pa_cons (pe_ty T.f_list) pa_nil)))))))))) (pss_one (ps_ret pe_bl)) pss_nil)
        (pss_cons (ps_for (passes_of rfl) rfl (piL (K := K) (pe_ix (ixK (K := K)) (pv 0) pe_int (fun _ _ => rfl))) (pg_name (i := 1) nd rfl (Or.inl rfl)) (pss_one (ps_if (pt_not (pt_val (pe_cal c_right_way hr (by omega) (fun σ => L2N.passAt (L2N.takes_of rfl rfl rfl rfl) σ) (pa_cons (pv 1) pa_nil)))) (pss_one (ps_ret pe_bl)) pss_nil)))
        (pss_one (ps_ret pe_bl)))))), ?_⟩
  walk_at "st"
  refine ⟨x, d, 3, rfl, by decide, hx, fun H1 e1 => ?_⟩
  walk_at "st"
  cases c3 : kindB d 3 with
  | true =>
    obtain ⟨kd, a, b, rfl⟩ := kind3 c3
    obtain ⟨p, xs, rfl, hp, hs⟩ := dp_tupE hx
    obtain ⟨y, ys, rfl, hy, hs⟩ := dpa_consE hs
    obtain ⟨z, zs, rfl, hz, hs⟩ := dpa_consE hs
    obtain ⟨u, us, rfl, hu', hs⟩ := dpa_consE hs
    obtain rfl := dp_strE hy
    have er : rowB (.tuple [.str kd, a, b]) = row3D kd a b := rfl
    rw [er] at k
    unfold row3D at k
    walk_at "st"
    refine r_atT (e1.tu hp) (atI_nat (j := 0) rfl) ?_
    walk_at "st"
    refine ite_d (fun c1 => ?_) (fun c1 => ?_)
    · rw [if_pos (V.str.inj c1)] at k
      walk_at "st"
      refine r_atT (e1.tu hp) (atI_nat (j := 1) rfl) ?_
      walk_at "st"
      refine ⟨z, a, rfl, e1.dp _ hz, fun H2 e2 => ?_⟩
      have e12 := e1.trans e2
      cases ca : countB a with
      | false =>
        refine ⟨false, rfl, ite_f ?_⟩
        rw [ca, Bool.false_and] at k
        exact k H2 e12
      | true =>
        refine ⟨true, rfl, ite_t ?_⟩
        rw [ca, Bool.true_and] at k
        walk_at "st"
        refine r_atT (e12.tu hp) (atI_nat (j := 2) rfl) ?_
        walk_at "st"
        exact ⟨u, b, rfl, e12.dp _ hu', fun H3 e3 => k H3 (e12.trans e3)⟩
    have c1' : ¬ kd = "leaf" := fun z => c1 (congrArg V.str z)
    rw [if_neg c1'] at k
    walk_at "st"
    refine ⟨_, _, 4, rfl, by decide, e1.dp _ hx, fun H2 e2 => ?_⟩
    have e12 := e1.trans e2
    rw [show kindB (.tuple [.str kd, a, b]) 4 = false by show decide (2 + 1 = 4) = false; decide]
    walk_at "st"
    refine ⟨_, _, 3, rfl, by decide, e12.dp _ hx, fun H3 e3 => ?_⟩
    have e13 := e12.trans e3
    rw [c3]
    walk_at "st"
    refine r_atT (e13.tu hp) (atI_nat (j := 0) rfl) ?_
    walk_at "st"
    by_cases c2 : kd = "find"
    · subst c2
      rw [decide_eq_true rfl, Bool.true_and] at k
      rw [decide_eq_true (show V.str "find" = V.str "find" from rfl)]
      walk_at "st"
      refine r_atT (e13.tu hp) (atI_nat (j := 1) rfl) ?_
      walk_at "st"
      refine ⟨z, a, rfl, e13.dp _ hz, fun H4 e4 => ?_⟩
      have e14 := e13.trans e4
      walk_at "st"
      cases ca : countB a with
      | false =>
        rw [ca, Bool.false_and] at k
        walk_at "st"
        exact k H4 e14
      | true =>
        rw [ca, Bool.true_and] at k
        walk_at "st"
        refine r_atT (e14.tu hp) (atI_nat (j := 2) rfl) ?_
        walk_at "st"
        refine r_isi (b := "list") (e14.dp _ hu') (by simp) ?_
        cases b with
        | list l =>
          rw [show isB (tyD (.list l)) "list" = true by simp [isB, tyD]]
          walk_at "st"
          refine r_atT (e14.tu hp) (atI_nat (j := 2) rfl) ?_
          obtain ⟨lp, ls, rfl, hlp, hls⟩ := dp_lstE hu'
          refine r_li (e14.l hlp) ?_
          refine forW_list (fun i σ' H' => ∃ v, σ' = [some (.ref p), v] ∧ Ext H4 H' ∧ (l.take i).all wayB = true) ⟨none, rfl, .rfl, rfl⟩ (fun i σ' H' _ ⟨_, _, e, _⟩ => (e14.trans e).l hlp) ?_ ?_
          · rintro i y σ' H5 hy ⟨v, rfl, e5, hall⟩
            obtain ⟨d, hd, hyd⟩ := dps_at hls hy
            walk_at "st"
            refine ⟨y, d, rfl, (e14.trans e5).dp _ hyd, fun H6 e6 => ?_⟩
            walk_at "st"
            cases hb : wayB d with
            | false =>
              walk_at "st"
              have k := k H6 ((e14.trans e5).trans e6)
              rw [show waysB (.list l) = false from all_no hd hb] at k
              exact k
            | true =>
              walk_at "st"
              exact ⟨_, rfl, e5.trans e6, all_take hall hd hb⟩
          · rintro σ' H5 ⟨v, rfl, e5, hall⟩
            walk_at "st"
            have k := k H5 (e14.trans e5)
            rw [show waysB (.list l) = true by rw [dps_len hls, List.take_length] at hall; exact hall] at k
            exact k
        | none => rw [show isB (tyD .none) "list" = false by simp [isB, tyD]]; walk_at "st"; exact k H4 e14
        | bool b => rw [show isB (tyD (.bool b)) "list" = false by simp [isB, tyD]]; walk_at "st"; exact k H4 e14
        | int i => rw [show isB (tyD (.int i)) "list" = false by simp [isB, tyD]]; walk_at "st"; exact k H4 e14
        | str s => rw [show isB (tyD (.str s)) "list" = false by simp [isB, tyD]]; walk_at "st"; exact k H4 e14
        | tuple l => rw [show isB (tyD (.tuple l)) "list" = false by simp [isB, tyD]]; walk_at "st"; exact k H4 e14
        | dict l => cases hu'
    · rw [decide_eq_false c2, Bool.false_and] at k
      rw [decide_eq_false (show ¬ V.str kd = V.str "find" from fun z => c2 (V.str.inj z))]
      walk_at "st"
      exact k H3 e13
  | false =>
    walk_at "st"
    refine ⟨_, _, 4, rfl, by decide, e1.dp _ hx, fun H2 e2 => ?_⟩
    have e12 := e1.trans e2
    walk_at "st"
    cases c4 : kindB d 4 with
    | true =>
      obtain ⟨kd, a, b, cc, rfl⟩ := kind4 c4
      obtain ⟨p, xs, rfl, hp, hs⟩ := dp_tupE hx
      obtain ⟨y, ys, rfl, hy, hs⟩ := dpa_consE hs
      obtain ⟨z, zs, rfl, hz, hs⟩ := dpa_consE hs
      obtain ⟨u, us, rfl, hu', hs⟩ := dpa_consE hs
      obtain ⟨o, os, rfl, ho, hs⟩ := dpa_consE hs
      obtain rfl := dp_strE hy
      have er : rowB (.tuple [.str kd, a, b, cc]) = row4D kd a b cc := rfl
      rw [er] at k
      unfold row4D at k
      walk_at "st"
      refine r_atT (e12.tu hp) (atI_nat (j := 0) rfl) ?_
      walk_at "st"
      refine ite_d (fun c1 => ?_) (fun c1 => ?_)
      · rw [decide_eq_true (V.str.inj c1), Bool.true_and] at k
        walk_at "st"
        refine r_atT (e12.tu hp) (atI_nat (j := 1) rfl) ?_
        walk_at "st"
        refine ⟨z, a, rfl, e12.dp _ hz, fun H3 e3 => ?_⟩
        have e13 := e12.trans e3
        cases ca : countB a with
        | false =>
          refine ⟨false, rfl, ite_f ?_⟩
          rw [ca, Bool.false_and] at k
          exact k H3 e13
        | true =>
          refine ⟨true, rfl, ite_t ?_⟩
          rw [ca, Bool.true_and] at k
          walk_at "st"
          refine r_atT (e13.tu hp) (atI_nat (j := 2) rfl) ?_
          walk_at "st"
          refine ⟨u, b, rfl, e13.dp _ hu', fun H4 e4 => ?_⟩
          have e14 := e13.trans e4
          cases cb : countB b with
          | false =>
            refine ⟨false, rfl, ite_f ?_⟩
            rw [cb, Bool.false_and] at k
            exact k H4 e14
          | true =>
            refine ⟨true, rfl, ite_t ?_⟩
            rw [cb, Bool.true_and] at k
            walk_at "st"
            refine r_atT (e14.tu hp) (atI_nat (j := 3) rfl) ?_
            walk_at "st"
            exact ⟨o, cc, rfl, e14.dp _ ho, fun H5 e5 => k H5 (e14.trans e5)⟩
      have c1' : ¬ kd = "tie" := fun z => c1 (congrArg V.str z)
      rw [decide_eq_false c1', Bool.false_and] at k
      walk_at "st"
      refine ⟨_, _, 3, rfl, by decide, e12.dp _ hx, fun H3 e3 => ?_⟩
      rw [c3]
      walk_at "st"
      exact k H3 (e12.trans e3)
    | false =>
      rw [row_no c3 c4] at k
      walk_at "st"
      refine ⟨_, _, 3, rfl, by decide, e12.dp _ hx, fun H3 e3 => ?_⟩
      rw [c3]
      walk_at "st"
      exact k H3 (e12.trans e3)

end
end K35
set_option maxRecDepth 100000
set_option maxHeartbeats 4000000
namespace K35
open PySem PySem.Spec PyProof.Rows L2 L3
local macro_rules | `(tactic| walk_at "s1") => `(tactic| first
  | with_reducible refine r_seq ?_
  | with_reducible refine r_asgN ?_
  | with_reducible refine r_ret ?_
  | with_reducible refine r_next ?_
  | ((with_reducible refine' r_var ?hv ?_); (case hv => exact rfl))
  | with_reducible refine r_c ?_
  | with_reducible refine r_op ?_
  | with_reducible refine r_cons ?_
  | with_reducible refine r_nil ?_
  | with_reducible refine r_plusI ?_
  | with_reducible refine r_I0 ?_
  | with_reducible refine r_test ?_
  | with_reducible refine r_bl ?_
  | with_reducible refine r_ifS ?_
  | with_reducible refine r_cb ?_
  | with_reducible refine r_callS ?_
  | with_reducible refine r_and ?_
  | with_reducible refine r_or ?_
  | with_reducible refine r_not ?_
  | with_reducible refine r_B ?_
  | ((with_reducible refine' r_aug ?hv ?_); (case hv => exact rfl))
  | with_reducible refine r_augS ?_
  | with_reducible refine r_ipI ?_
  | with_reducible refine r_asg ?_
  | with_reducible refine r_sub ?_
  | with_reducible refine r_brk ?_
  | with_reducible refine r_isN1 ?_
  | with_reducible refine r_notN1 ?_
  | with_reducible refine r_intI ?_
  | with_reducible refine r_abs ?_
  | with_reducible refine r_min ?_
  | with_reducible refine r_max ?_
  | ((with_reducible refine' r_mod ?hz ?_); (case hz => omega))
  | ((with_reducible refine' r_pow ?hz ?_); (case hz => exact ⟨by decide, by decide, by decide⟩))
  | ((with_reducible refine' r_rg1 ?hz ?_); (case hz => omega))
  | ((with_reducible refine' r_rg2 ?hz ?_); (case hz => omega))
  | ((with_reducible refine' r_newL ?hz ?_); (case hz => exact Nat.le_of_ble_eq_true rfl))
  | ((with_reducible refine' r_newT ?hz ?_); (case hz => exact Nat.le_of_ble_eq_true rfl))
  | with_reducible refine r_for ?_
  | with_reducible refine r_lc ?_
  | with_reducible refine r_iR1 ?_
  | with_reducible refine r_iR2 ?_
  | with_reducible refine r_iL ?_
  | with_reducible refine r_iT ?_
  | with_reducible refine r_gname ?_
  | with_reducible refine r_gcons ?_
  | with_reducible refine r_gnil ?_
  | with_reducible refine r_yes ?_
  | with_reducible refine r_mkO ?_
  | with_reducible refine r_cont ?_
  | with_reducible refine r_drop ?_
  | with_reducible refine r_retN ?_
  | with_reducible refine r_ifC ?_
  | with_reducible refine r_ifI ?_
  | with_reducible refine r_if ?_
  | with_reducible refine r_un ?_
  | with_reducible refine r_neg ?_
  | with_reducible refine r_andV ?_
  | with_reducible refine r_orV ?_
  | with_reducible refine r_notV ?_
  | with_reducible refine r_tup ?_
  | with_reducible refine r_lst ?_
  | with_reducible refine r_bm ?_
  | with_reducible refine r_bm0 ?_
  | with_reducible refine r_sl ?_
  | with_reducible refine r_chain ?_
  | with_reducible refine r_listDn ?_
  | with_reducible refine r_listRg2 ?_
  | with_reducible refine r_listRg1 ?_
  | with_reducible refine r_revL ?_
  | with_reducible refine r_noPart ?_
  | with_reducible refine r_meth ?_
  | with_reducible refine r_methE ?_
  | with_reducible refine r_js ?_
  | with_reducible refine r_jsC ?_
  | with_reducible refine r_jsN ?_
  | with_reducible refine r_fmt ?_
  | with_reducible refine r_fld ?_
  | with_reducible refine r_sfld ?_
  | with_reducible refine r_make ?_
  | with_reducible refine r_m1 ?_
  | with_reducible refine r_m1s ?_
  | with_reducible refine r_iS ?_
  | with_reducible refine r_iE ?_
  | with_reducible refine r_si ?_
  | with_reducible refine r_strS ?_
  | with_reducible refine r_dgt ?_
  | with_reducible refine r_din ?_
  | with_reducible refine r_dnin ?_
  | with_reducible refine r_dput ?_
  | with_reducible refine r_dnew ?_
  | with_reducible refine r_disp1 ?_
  | with_reducible refine r_lenSet ?_
  | with_reducible refine r_get2 ?_
  | with_reducible refine r_get1 ?_
  | with_reducible refine r_daug ?_
  | with_reducible refine r_iR3 ?_
  | with_reducible refine r_prC ?_
  | with_reducible refine r_prN ?_
  | with_reducible refine r_part ?_
  | with_reducible refine r_int ?_
  | ((with_reducible refine' r_sameS ?hs ?_); (case hs => exact rfl))
  | ((with_reducible refine' r_otherS ?hs ?_); (case hs => exact rfl))
  | with_reducible refine ite_t ?_
  | with_reducible refine ite_f ?_
  | with_reducible refine ite_nt ?_
  | with_reducible refine ite_nf ?_)
local macro_rules | `(tactic| walk_at "st") => `(tactic| repeat (walk_at "s1"))
local macro_rules | `(tactic| walk_at "su") => `(tactic| first
  | with_reducible refine r_seq ?_
  | with_reducible refine r_asgN ?_
  | with_reducible refine r_ret ?_
  | with_reducible refine r_next ?_
  | ((with_reducible refine' r_var ?hv ?_); (case hv => exact rfl))
  | with_reducible refine r_c ?_
  | with_reducible refine r_op ?_
  | with_reducible refine r_cons ?_
  | with_reducible refine r_nil ?_
  | with_reducible refine r_plusI ?_
  | with_reducible refine r_I0 ?_
  | with_reducible refine r_test ?_
  | with_reducible refine r_bl ?_
  | with_reducible refine r_cb ?_
  | with_reducible refine r_callS ?_
  | with_reducible refine r_and ?_
  | with_reducible refine r_or ?_
  | with_reducible refine r_not ?_
  | with_reducible refine r_B ?_
  | ((with_reducible refine' r_aug ?hv ?_); (case hv => exact rfl))
  | with_reducible refine r_augS ?_
  | with_reducible refine r_ipI ?_
  | with_reducible refine r_asg ?_
  | with_reducible refine r_sub ?_
  | with_reducible refine r_brk ?_
  | with_reducible refine r_isN1 ?_
  | with_reducible refine r_notN1 ?_
  | with_reducible refine r_intI ?_
  | with_reducible refine r_abs ?_
  | with_reducible refine r_min ?_
  | with_reducible refine r_max ?_
  | ((with_reducible refine' r_mod ?hz ?_); (case hz => omega))
  | ((with_reducible refine' r_pow ?hz ?_); (case hz => exact ⟨by decide, by decide, by decide⟩))
  | ((with_reducible refine' r_rg1 ?hz ?_); (case hz => omega))
  | ((with_reducible refine' r_rg2 ?hz ?_); (case hz => omega))
  | ((with_reducible refine' r_newL ?hz ?_); (case hz => exact Nat.le_of_ble_eq_true rfl))
  | ((with_reducible refine' r_newT ?hz ?_); (case hz => exact Nat.le_of_ble_eq_true rfl))
  | with_reducible refine r_for ?_
  | with_reducible refine r_lc ?_
  | with_reducible refine r_iR1 ?_
  | with_reducible refine r_iR2 ?_
  | with_reducible refine r_iL ?_
  | with_reducible refine r_iT ?_
  | with_reducible refine r_gname ?_
  | with_reducible refine r_gcons ?_
  | with_reducible refine r_gnil ?_
  | with_reducible refine r_yes ?_
  | with_reducible refine r_mkO ?_
  | with_reducible refine r_cont ?_
  | with_reducible refine r_drop ?_
  | with_reducible refine r_retN ?_
  | with_reducible refine r_ifC ?_
  | with_reducible refine r_ifI ?_
  | with_reducible refine r_if ?_
  | with_reducible refine r_un ?_
  | with_reducible refine r_neg ?_
  | with_reducible refine r_andV ?_
  | with_reducible refine r_orV ?_
  | with_reducible refine r_notV ?_
  | with_reducible refine r_tup ?_
  | with_reducible refine r_lst ?_
  | with_reducible refine r_bm ?_
  | with_reducible refine r_bm0 ?_
  | with_reducible refine r_sl ?_
  | with_reducible refine r_chain ?_
  | with_reducible refine r_listDn ?_
  | with_reducible refine r_listRg2 ?_
  | with_reducible refine r_listRg1 ?_
  | with_reducible refine r_revL ?_
  | with_reducible refine r_noPart ?_
  | with_reducible refine r_meth ?_
  | with_reducible refine r_methE ?_
  | with_reducible refine r_js ?_
  | with_reducible refine r_jsC ?_
  | with_reducible refine r_jsN ?_
  | with_reducible refine r_fmt ?_
  | with_reducible refine r_fld ?_
  | with_reducible refine r_sfld ?_
  | with_reducible refine r_make ?_
  | with_reducible refine r_m1 ?_
  | with_reducible refine r_m1s ?_
  | with_reducible refine r_iS ?_
  | with_reducible refine r_iE ?_
  | with_reducible refine r_si ?_
  | with_reducible refine r_strS ?_
  | with_reducible refine r_dgt ?_
  | with_reducible refine r_din ?_
  | with_reducible refine r_dnin ?_
  | with_reducible refine r_dput ?_
  | with_reducible refine r_dnew ?_
  | with_reducible refine r_disp1 ?_
  | with_reducible refine r_lenSet ?_
  | with_reducible refine r_get2 ?_
  | with_reducible refine r_get1 ?_
  | with_reducible refine r_daug ?_
  | with_reducible refine r_iR3 ?_
  | with_reducible refine r_prC ?_
  | with_reducible refine r_prN ?_
  | with_reducible refine r_part ?_
  | with_reducible refine r_int ?_
  | ((with_reducible refine' r_sameS ?hs ?_); (case hs => exact rfl))
  | ((with_reducible refine' r_otherS ?hs ?_); (case hs => exact rfl))
  | with_reducible refine ite_t ?_
  | with_reducible refine ite_f ?_
  | with_reducible refine ite_nt ?_
  | with_reducible refine ite_nf ?_)
local macro_rules | `(tactic| walk_at "sv") => `(tactic| repeat (walk_at "su"))

section
variable {P : Program} {w : World} {K : PySem.W.Frag} {mg : Str → Option Value} {base : Heap}
/-! ### growing lists -/
structure Grow (S : Addr → Prop) (H : Hp) (p : Addr) (ds : List PyData) : Prop where
  ex : ∃ vs, H p = some (.lst vs) ∧ Nws S H vs ds
theorem Grow.start {S : Addr → Prop} {H : Hp} {p : Addr} (h : H p = some (.lst [])) : Grow S H p [] := ⟨[], h, .nil⟩
theorem Grow.keep {S S' : Addr → Prop} {H H' : Hp} {p : Addr} {ds : List PyData} (g : Grow S H p ds) (hp : ∀ o, H p = some o → H' p = some o) (h : ∀ a o, S a → H a = some o → H' a = some o ∧ S' a) : Grow S' H' p ds := by
  obtain ⟨vs, h1, h2⟩ := g
  exact ⟨vs, hp _ h1, h2.keep h _⟩
theorem Grow.ext {S : Addr → Prop} {H H' : Hp} {p : Addr} {ds : List PyData} (g : Grow S H p ds) (e : Ext H H') : Grow S H' p ds := g.keep (fun o h => e _ _ h) fun a o s h => ⟨e _ _ h, s⟩
theorem Grow.len {S : Addr → Prop} {H : Hp} {p : Addr} {ds : List PyData} (g : Grow S H p ds) : ∃ vs, H p = some (.lst vs) ∧ vs.length = ds.length := by
  obtain ⟨vs, h1, h2⟩ := g
  exact ⟨vs, h1, h2.len⟩
/-- p.append(x) -/
theorem Grow.app {S : Addr → Prop} {H : Hp} {p : Addr} {ds : List PyData} {x : V} {d : PyData} {Q : VK} (g : Grow S H p ds) (hl : ds.length < 100000) (hS : ∀ a, S a → a ≠ p) (hx : Nw S H x d) (k : ∀ H', (∀ b, b ≠ p → H' b = H b) → Grow S H' p (ds ++ [d]) → Q .non H') : rAppend (.ref p) [x] H Q := by
  obtain ⟨vs, h1, h2⟩ := g
  refine r_app h1 (by rw [h2.len]; exact hl) (fun H' h' n => k H' n ⟨_, h', ?_⟩)
  exact (h2.keep (fun a o s q => ⟨(n a (hS a s)).trans q, s⟩) _).append (.cons (hx.keep (fun a o s q => ⟨(n a (hS a s)).trans q, s⟩) _) .nil)
theorem Grow.ty {S : Addr → Prop} {H : Hp} {p : Addr} {ds : List PyData} (g : Grow S H p ds) : tyV K "list" (.ref p) H := by
  obtain ⟨vs, h1, _⟩ := g
  exact .inl ⟨rfl, _, sqL h1⟩
theorem Grow.push {S : Addr → Prop} {H' H4 : Hp} {D : Addr} {ds : List PyData} {y : V} {d : PyData} (g : Grow S H' D ds) (e : Ext H' H4) (hx : Nw S H4 y d) (hS : ∀ a, S a → a ≠ D) (hl : ds.length < 100000) : ∃ acc, H4 D = some (.lst acc) ∧ acc.length < sizeLine ∧ Grow S (upd H4 D (.lst (acc ++ [y]))) D (ds ++ [d]) := by
  obtain ⟨vs, h1, h2⟩ := g
  refine ⟨vs, e _ _ h1, by rw [h2.len]; exact Nat.lt_of_lt_of_le hl (by decide), _, upd_same, ?_⟩
  exact (h2.keep (fun a o s z => ⟨by rw [upd_ne (hS a s)]; exact e _ _ z, s⟩) _).append (.cons (hx.keep (fun a o s z => ⟨by rw [upd_ne (hS a s)]; exact z, s⟩) _) .nil)

/-! ### ways from words -/
def chunkF : List Str → List (List Str)
  | [] => []
  | w :: r => if w = "go" then (w :: r).take 2 :: chunkF (r.drop 1) else (w :: r).take 3 :: chunkF (r.drop 2)
termination_by ws => ws.length
decreasing_by
  all_goals simp only [List.length_drop, List.length_cons]
  all_goals omega
def stpN (w : Str) : Nat := if w = "go" then 2 else 3
theorem chunk_nil : chunkF [] = [] := by unfold chunkF; rfl
theorem chunk_cons (w : Str) (r : List Str) : chunkF (w :: r) = (w :: r).take (stpN w) :: chunkF ((w :: r).drop (stpN w)) := by
  rw [chunkF]
  unfold stpN
  split
  · rfl
  · rfl
def chD (c : List Str) : PyData := .tuple (c.map wD)
def wayD (ws : List Str) : PyData := .tuple [wD (ws.getD 0 e0), .list ((chunkF (ws.drop 1)).map chD)]
def wayF (ws : List Str) : Option PyData := if ws = [] then none else if wayB (wayD ws) = true then some (wayD ws) else none
theorem wv_at {ws : List Str} {i : Nat} (h : i < ws.length) : (ws.map wV)[i]? = some (wV (ws.getD i e0)) := by
  rw [List.getElem?_map, List.getD_eq_getElem?_getD, List.getElem?_eq_getElem h]
  rfl
theorem wv_str {x s : Str} (h : sgnO s = none) : decide (wV x = V.str s) = decide (x = s) := by
  by_cases c : x = s
  · subst c
    rw [decide_eq_true rfl]
    unfold wV
    rw [h]
    exact decide_eq_true rfl
  · rw [decide_eq_false c]
    refine decide_eq_false fun z => c ?_
    unfold wV at z
    split at z
    · cases z
    · exact V.str.inj z
theorem wv_scal (x s : Str) : scal (wV x) (V.str s) = true := by
  unfold wV
  split <;> rfl
theorem sg_go : sgnO "go" = none := by decide +kernel
theorem sg_or : sgnO "or" = none := by decide +kernel
theorem sg_find : sgnO "find" = none := by decide +kernel
theorem sg_code : sgnO "code" = none := by decide +kernel
theorem nw_tupC {S : Addr → Prop} {H : Hp} {p : Addr} {ws : List Str} (s : S p) (h : H p = some (.tup (ws.map wV))) : Nw S H (.ref p) (chD ws) := .tup s h (wnws ws)
theorem chunk_len : ∀ (n : Nat) (ws : List Str), ws.length ≤ n → (chunkF ws).length ≤ ws.length
  | 0, ws, h => by
    have : ws = [] := List.eq_nil_of_length_eq_zero (by omega)
    subst this
    rw [chunk_nil]
    exact Nat.le_refl _
  | n + 1, [], _ => by
    rw [chunk_nil]
    exact Nat.le_refl _
  | n + 1, w :: r, h => by
    rw [chunk_cons, List.length_cons]
    have s2 : 2 ≤ stpN w := by unfold stpN; split <;> omega
    have l : ((w :: r).drop (stpN w)).length = r.length + 1 - stpN w := by rw [List.length_drop, List.length_cons]
    rw [List.length_cons] at h ⊢
    have := chunk_len n ((w :: r).drop (stpN w)) (by omega)
    omega
def spWayF (K : PySem.W.Frag) : Sp := fun vs H Q _ => ∃ (p : Addr) (ws : List Str), vs = [.ref p] ∧ SqL K H p (ws.map wV) ∧ (∃ o, H p = some o) ∧ ws.length ≤ 60000 ∧ ∀ x H', Ext H H' → OptD (fun a => H a = none) H' (wayF ws) x → Q x H'
theorem sc_way_from : FnScope ["words", "steps", "at", "size", "way"] ["words"] (defScope s_way_from) := ⟨rfl, rfl, rfl, by decide +kernel, rfl, by decide +kernel, by decide +kernel⟩
theorem ok_way_from (T : Txt w K mg) : CalG P w K mg base 4 "way_from" ["words"] (spWayF K) := by
  have c_right_way := ok_right_way (P := P) (base := base) T
  refine calG_of T.g_way_from T.d_way_from sc_way_from (fun _ _ _ _ _ _ _ us hl => match us, hl with | [_], _ => rfl) (fun vs H Q E h => by obtain ⟨_, _, rfl, _⟩ := h; rfl) (fun cdv A outer s H vs Q E hr h => ?_)
  have nd := sc_way_from.nd
  have hu := hu64 hr
  obtain ⟨p, ws, rfl, hp, ⟨o, ho⟩, hl, k⟩ := h
  refine ⟨_, (pss_cons (ps_if (pt_cmpR (sameK (K := K) hu) (pe_callB (lenK (K := K)) (by rfl) T.f_len boot_len (pa_cons (pv 0) pa_nil)) pe_int (nomark _)) (pss_one (ps_ret pe_non)) pss_nil)
        (pss_cons (ps_set (i := 1) nd rfl (Or.inl rfl) (pe_lst pa_nil))
        (pss_cons (ps_set (i := 2) nd rfl (Or.inl rfl) pe_int)
        (pss_cons (ps_while (passes_of rfl) (pt_cmpR op_lt (pv 2) (pe_callB (lenK (K := K)) (by rfl) T.f_len boot_len (pa_cons (pv 0) pa_nil)) (nomark _)) (pss_cons (ps_set (i := 3) nd rfl (Or.inl rfl) (pe_ifExp (pt_cmpR (sameK (K := K) hu) (pe_ix (ixK (K := K)) (pv 0) (pv 2) (fun _ _ => rfl)) pe_str (nomark _)) pe_int pe_int))
        (pss_cons (ps_expr (peBM (K := K) (pe_bm PySem.F.plainAttrs_list PySem.F.slot_list_append PySem.F.type_list_append mt_append (pv 1) (pa_cons (pe_callTy (tupK (K := K)) (by rfl) T.f_tuple (by decide +kernel) (pa_cons (pe_slice (slK (K := K)) (pv 0) (po_some (pv 2)) (po_some (pe_op (plusK (K := K)) (pv 2) (pv 3)))) pa_nil)) pa_nil))))
        (pss_one (ps_aug (i := 2) nd rfl (Or.inl rfl) (pv 3) ip_add)))))
        (pss_cons (ps_set (i := 4) nd rfl (Or.inl rfl) (pe_tup (pa_cons (pe_ix (ixK (K := K)) (pv 0) pe_int (fun _ _ => rfl)) (pa_cons (pv 1) pa_nil))))
        (pss_one (ps_ret (pe_ifExp (pt_val (pe_cal c_right_way hr (by omega) (fun σ => L2N.passAt (L2N.takes_of rfl rfl rfl rfl) σ) (pa_cons (pv 4) pa_nil))) (pv 4) pe_non)))))))), ?_⟩
  walk_at "st"
  refine r_lenL hp (n := (ws.length : Nat)) (by rw [List.length_map]) ?_
  walk_at "st"
  refine ite_d (fun c => ?_) (fun c => ?_)
  · have e0' : ws = [] := List.eq_nil_of_length_eq_zero (by have := V.int.inj c; omega)
    walk_at "st"
    refine k _ H .rfl ?_
    unfold wayF
    rw [if_pos e0']
    rfl
  have l0 : 0 < ws.length := by
    rcases Nat.eq_zero_or_pos ws.length with z | z
    · exact absurd (by rw [z]; rfl) c
    · exact z
  have ne : ws ≠ [] := fun z => by rw [z] at l0; exact absurd l0 (by decide)
  walk_at "st"
  intro D H1 hD e1 h1
  walk_at "st"
  have pD : p ≠ D := ne_of_none ho hD
  refine whileW (fun μ σ' H' => ∃ (at_ : Nat) (v3 : Option V) (done : List (List Str)), σ' = [some (.ref p), some (.ref D), some (.int (at_ : Nat)), v3, none] ∧ Ext H H' ∧ Grow (fun a => H a = none ∧ a ≠ D) H' D (done.map chD) ∧ chunkF (ws.drop 1) = done ++ chunkF (ws.drop at_) ∧ 1 ≤ at_ ∧ done.length ≤ at_ ∧ μ = ws.length + 4 - at_) (ws.length + 3)
    ⟨1, none, [], rfl, e1, .start h1, rfl, Nat.le_refl _, Nat.zero_le _, by omega⟩ ?_
  rintro μ σ' H2 ⟨at_, v3, done, rfl, e2, g2, ch, a1, dl, rfl⟩
  walk_at "st"
  refine r_lenL (e2.l hp) (n := (ws.length : Nat)) (by rw [List.length_map]) ?_
  walk_at "st"
  refine ite_d (fun c => r_N ?_) (fun c => ?_)
  · have al : at_ < ws.length := by omega
    walk_at "st"
    refine r_atL (e2.l hp) (atI_nat (wv_at al)) ?_
    refine r_sameS (wv_scal _ _) ?_
    rw [wv_str sg_go]
    walk_at "st"
    have esz : (if decide (ws.getD at_ e0 = "go") = true then (2 : Int) else 3) = ((stpN (ws.getD at_ e0) : Nat) : Int) := by
      unfold stpN
      by_cases c2 : ws.getD at_ e0 = "go"
      · rw [decide_eq_true c2, if_pos c2, if_pos rfl]
        rfl
      · rw [decide_eq_false c2, if_neg c2, if_neg Bool.false_ne_true]
        rfl
    rw [esz]
    have s23 : 2 ≤ stpN (ws.getD at_ e0) ∧ stpN (ws.getD at_ e0) ≤ 3 := by unfold stpN; split <;> omega
    have edr : ws.drop at_ = ws.getD at_ e0 :: ws.drop (at_ + 1) := by
      rw [List.drop_eq_getElem_cons al, List.getD_eq_getElem?_getD, List.getElem?_eq_getElem al]
      rfl
    have ech : chunkF (ws.drop at_) = (ws.drop at_).take (stpN (ws.getD at_ e0)) :: chunkF (ws.drop (at_ + stpN (ws.getD at_ e0))) := by
      rw [← List.drop_drop]
      conv => lhs; rw [edr]
      rw [chunk_cons, ← edr]
    generalize stpN (ws.getD at_ e0) = sz at s23 ech
    walk_at "st"
    refine ⟨g2.ty, ?_⟩
    walk_at "st"
    refine r_slL (e2.l hp) (fun u H3 hu3 e3 h3 => ?_)
    walk_at "st"
    refine r_tupL (sqL h3) (fun t H4 ht e4 h4 => ?_)
    walk_at "st"
    have hcut : cutV (ws.map wV) (some ((at_ : Nat) : Int)) (some ((at_ : Int) + (sz : Nat))) = ((ws.drop at_).take sz).map wV := by
      rw [show (at_ : Int) + (sz : Nat) = ((at_ + sz : Nat) : Int) by omega, cut_at, show at_ + sz - at_ = sz by omega, ← List.map_drop, ← List.map_take]
    rw [hcut] at h4
    have e24 := e2.trans (e3.trans e4)
    have g4 := g2.ext (e3.trans e4)
    obtain ⟨vs, hv, _⟩ := g2.ex
    have tD : t ≠ D := (ne_of_none (e3 _ _ hv) ht).symm
    refine g4.app (d := chD ((ws.drop at_).take sz)) (by rw [List.length_map]; omega) (fun a s => s.2) (nw_tupC ⟨(e2.trans e3).none ht, tD⟩ h4) (fun H5 n5 g5 => ?_)
    walk_at "st"
    refine ⟨_, ?_, at_ + sz, _, done ++ [(ws.drop at_).take sz], by rw [show ((at_ + sz : Nat) : Int) = (at_ : Int) + (sz : Nat) by omega]; rfl, mut_ext e24 hD n5, by rw [List.map_append]; exact g5, by rw [ch, ech, List.append_assoc]; rfl, by omega, by rw [List.length_append]; show _ + 1 ≤ _; omega, rfl⟩
    omega
  · have al : ws.length ≤ at_ := by omega
    rw [List.drop_eq_nil_of_le al, chunk_nil, List.append_nil] at ch
    walk_at "st"
    refine r_atL (e2.l hp) (atI_nat (j := 0) (wv_at l0)) ?_
    walk_at "st"
    intro t H3 ht e3 h3
    walk_at "st"
    obtain ⟨vs, hv, hvs⟩ := g2.ex
    have e23 := e2.trans e3
    have nw : Nw (fun a => H a = none) H3 (.ref t) (wayD ws) := by
      refine .tup (e2.none ht) h3 (.cons (wnw _) (.cons (.lst hD (e3 _ _ hv) ?_) .nil))
      rw [ch]
      exact hvs.keep (fun a o s z => ⟨e3 _ _ z, s.1⟩) _
    refine ⟨_, _, rfl, nw.dp _, fun H4 e4 => ?_⟩
    walk_at "st"
    cases hb : wayB (wayD ws) with
    | true =>
      walk_at "st"
      refine k _ H4 (e23.trans e4) ?_
      unfold wayF
      rw [if_neg ne, if_pos hb]
      exact nw_ext nw e4
    | false =>
      walk_at "st"
      refine k _ H4 (e23.trans e4) ?_
      unfold wayF
      rw [if_neg ne, if_neg (by rw [hb]; exact Bool.noConfusion)]
      rfl

end
end K35
set_option maxRecDepth 100000
set_option maxHeartbeats 4000000
namespace K35
open PySem PySem.Spec PyProof.Rows L2 L3
local macro_rules | `(tactic| walk_at "s1") => `(tactic| first
  | with_reducible refine r_seq ?_
  | with_reducible refine r_asgN ?_
  | with_reducible refine r_ret ?_
  | with_reducible refine r_next ?_
  | ((with_reducible refine' r_var ?hv ?_); (case hv => exact rfl))
  | with_reducible refine r_c ?_
  | with_reducible refine r_op ?_
  | with_reducible refine r_cons ?_
  | with_reducible refine r_nil ?_
  | with_reducible refine r_plusI ?_
  | with_reducible refine r_I0 ?_
  | with_reducible refine r_test ?_
  | with_reducible refine r_bl ?_
  | with_reducible refine r_ifS ?_
  | with_reducible refine r_cb ?_
  | with_reducible refine r_callS ?_
  | with_reducible refine r_and ?_
  | with_reducible refine r_or ?_
  | with_reducible refine r_not ?_
  | with_reducible refine r_B ?_
  | ((with_reducible refine' r_aug ?hv ?_); (case hv => exact rfl))
  | with_reducible refine r_augS ?_
  | with_reducible refine r_ipI ?_
  | with_reducible refine r_asg ?_
  | with_reducible refine r_sub ?_
  | with_reducible refine r_brk ?_
  | with_reducible refine r_isN1 ?_
  | with_reducible refine r_notN1 ?_
  | with_reducible refine r_intI ?_
  | with_reducible refine r_abs ?_
  | with_reducible refine r_min ?_
  | with_reducible refine r_max ?_
  | ((with_reducible refine' r_mod ?hz ?_); (case hz => omega))
  | ((with_reducible refine' r_pow ?hz ?_); (case hz => exact ⟨by decide, by decide, by decide⟩))
  | ((with_reducible refine' r_rg1 ?hz ?_); (case hz => omega))
  | ((with_reducible refine' r_rg2 ?hz ?_); (case hz => omega))
  | ((with_reducible refine' r_newL ?hz ?_); (case hz => exact Nat.le_of_ble_eq_true rfl))
  | ((with_reducible refine' r_newT ?hz ?_); (case hz => exact Nat.le_of_ble_eq_true rfl))
  | with_reducible refine r_for ?_
  | with_reducible refine r_lc ?_
  | with_reducible refine r_iR1 ?_
  | with_reducible refine r_iR2 ?_
  | with_reducible refine r_iL ?_
  | with_reducible refine r_iT ?_
  | with_reducible refine r_gname ?_
  | with_reducible refine r_gcons ?_
  | with_reducible refine r_gnil ?_
  | with_reducible refine r_yes ?_
  | with_reducible refine r_mkO ?_
  | with_reducible refine r_cont ?_
  | with_reducible refine r_drop ?_
  | with_reducible refine r_retN ?_
  | with_reducible refine r_ifC ?_
  | with_reducible refine r_ifI ?_
  | with_reducible refine r_if ?_
  | with_reducible refine r_un ?_
  | with_reducible refine r_neg ?_
  | with_reducible refine r_andV ?_
  | with_reducible refine r_orV ?_
  | with_reducible refine r_notV ?_
  | with_reducible refine r_tup ?_
  | with_reducible refine r_lst ?_
  | with_reducible refine r_bm ?_
  | with_reducible refine r_bm0 ?_
  | with_reducible refine r_sl ?_
  | with_reducible refine r_chain ?_
  | with_reducible refine r_listDn ?_
  | with_reducible refine r_listRg2 ?_
  | with_reducible refine r_listRg1 ?_
  | with_reducible refine r_revL ?_
  | with_reducible refine r_noPart ?_
  | with_reducible refine r_meth ?_
  | with_reducible refine r_methE ?_
  | with_reducible refine r_js ?_
  | with_reducible refine r_jsC ?_
  | with_reducible refine r_jsN ?_
  | with_reducible refine r_fmt ?_
  | with_reducible refine r_fld ?_
  | with_reducible refine r_sfld ?_
  | with_reducible refine r_make ?_
  | with_reducible refine r_m1 ?_
  | with_reducible refine r_m1s ?_
  | with_reducible refine r_iS ?_
  | with_reducible refine r_iE ?_
  | with_reducible refine r_si ?_
  | with_reducible refine r_strS ?_
  | with_reducible refine r_dgt ?_
  | with_reducible refine r_din ?_
  | with_reducible refine r_dnin ?_
  | with_reducible refine r_dput ?_
  | with_reducible refine r_dnew ?_
  | with_reducible refine r_disp1 ?_
  | with_reducible refine r_lenSet ?_
  | with_reducible refine r_get2 ?_
  | with_reducible refine r_get1 ?_
  | with_reducible refine r_daug ?_
  | with_reducible refine r_iR3 ?_
  | with_reducible refine r_prC ?_
  | with_reducible refine r_prN ?_
  | with_reducible refine r_part ?_
  | with_reducible refine r_int ?_
  | ((with_reducible refine' r_sameS ?hs ?_); (case hs => exact rfl))
  | ((with_reducible refine' r_otherS ?hs ?_); (case hs => exact rfl))
  | with_reducible refine ite_t ?_
  | with_reducible refine ite_f ?_
  | with_reducible refine ite_nt ?_
  | with_reducible refine ite_nf ?_)
local macro_rules | `(tactic| walk_at "st") => `(tactic| repeat (walk_at "s1"))
local macro_rules | `(tactic| walk_at "su") => `(tactic| first
  | with_reducible refine r_seq ?_
  | with_reducible refine r_asgN ?_
  | with_reducible refine r_ret ?_
  | with_reducible refine r_next ?_
  | ((with_reducible refine' r_var ?hv ?_); (case hv => exact rfl))
  | with_reducible refine r_c ?_
  | with_reducible refine r_op ?_
  | with_reducible refine r_cons ?_
  | with_reducible refine r_nil ?_
  | with_reducible refine r_plusI ?_
  | with_reducible refine r_I0 ?_
  | with_reducible refine r_test ?_
  | with_reducible refine r_bl ?_
  | with_reducible refine r_cb ?_
  | with_reducible refine r_callS ?_
  | with_reducible refine r_and ?_
  | with_reducible refine r_or ?_
  | with_reducible refine r_not ?_
  | with_reducible refine r_B ?_
  | ((with_reducible refine' r_aug ?hv ?_); (case hv => exact rfl))
  | with_reducible refine r_augS ?_
  | with_reducible refine r_ipI ?_
  | with_reducible refine r_asg ?_
  | with_reducible refine r_sub ?_
  | with_reducible refine r_brk ?_
  | with_reducible refine r_isN1 ?_
  | with_reducible refine r_notN1 ?_
  | with_reducible refine r_intI ?_
  | with_reducible refine r_abs ?_
  | with_reducible refine r_min ?_
  | with_reducible refine r_max ?_
  | ((with_reducible refine' r_mod ?hz ?_); (case hz => omega))
  | ((with_reducible refine' r_pow ?hz ?_); (case hz => exact ⟨by decide, by decide, by decide⟩))
  | ((with_reducible refine' r_rg1 ?hz ?_); (case hz => omega))
  | ((with_reducible refine' r_rg2 ?hz ?_); (case hz => omega))
  | ((with_reducible refine' r_newL ?hz ?_); (case hz => exact Nat.le_of_ble_eq_true rfl))
  | ((with_reducible refine' r_newT ?hz ?_); (case hz => exact Nat.le_of_ble_eq_true rfl))
  | with_reducible refine r_for ?_
  | with_reducible refine r_lc ?_
  | with_reducible refine r_iR1 ?_
  | with_reducible refine r_iR2 ?_
  | with_reducible refine r_iL ?_
  | with_reducible refine r_iT ?_
  | with_reducible refine r_gname ?_
  | with_reducible refine r_gcons ?_
  | with_reducible refine r_gnil ?_
  | with_reducible refine r_yes ?_
  | with_reducible refine r_mkO ?_
  | with_reducible refine r_cont ?_
  | with_reducible refine r_drop ?_
  | with_reducible refine r_retN ?_
  | with_reducible refine r_ifC ?_
  | with_reducible refine r_ifI ?_
  | with_reducible refine r_if ?_
  | with_reducible refine r_un ?_
  | with_reducible refine r_neg ?_
  | with_reducible refine r_andV ?_
  | with_reducible refine r_orV ?_
  | with_reducible refine r_notV ?_
  | with_reducible refine r_tup ?_
  | with_reducible refine r_lst ?_
  | with_reducible refine r_bm ?_
  | with_reducible refine r_bm0 ?_
  | with_reducible refine r_sl ?_
  | with_reducible refine r_chain ?_
  | with_reducible refine r_listDn ?_
  | with_reducible refine r_listRg2 ?_
  | with_reducible refine r_listRg1 ?_
  | with_reducible refine r_revL ?_
  | with_reducible refine r_noPart ?_
  | with_reducible refine r_meth ?_
  | with_reducible refine r_methE ?_
  | with_reducible refine r_js ?_
  | with_reducible refine r_jsC ?_
  | with_reducible refine r_jsN ?_
  | with_reducible refine r_fmt ?_
  | with_reducible refine r_fld ?_
  | with_reducible refine r_sfld ?_
  | with_reducible refine r_make ?_
  | with_reducible refine r_m1 ?_
  | with_reducible refine r_m1s ?_
  | with_reducible refine r_iS ?_
  | with_reducible refine r_iE ?_
  | with_reducible refine r_si ?_
  | with_reducible refine r_strS ?_
  | with_reducible refine r_dgt ?_
  | with_reducible refine r_din ?_
  | with_reducible refine r_dnin ?_
  | with_reducible refine r_dput ?_
  | with_reducible refine r_dnew ?_
  | with_reducible refine r_disp1 ?_
  | with_reducible refine r_lenSet ?_
  | with_reducible refine r_get2 ?_
  | with_reducible refine r_get1 ?_
  | with_reducible refine r_daug ?_
  | with_reducible refine r_iR3 ?_
  | with_reducible refine r_prC ?_
  | with_reducible refine r_prN ?_
  | with_reducible refine r_part ?_
  | with_reducible refine r_int ?_
  | ((with_reducible refine' r_sameS ?hs ?_); (case hs => exact rfl))
  | ((with_reducible refine' r_otherS ?hs ?_); (case hs => exact rfl))
  | with_reducible refine ite_t ?_
  | with_reducible refine ite_f ?_
  | with_reducible refine ite_nt ?_
  | with_reducible refine ite_nf ?_)
local macro_rules | `(tactic| walk_at "sv") => `(tactic| repeat (walk_at "su"))

section
variable {P : Program} {w : World} {K : PySem.W.Frag} {mg : Str → Option Value} {base : Heap}

/-! ### rows from lines -/
def orS (acc : List (List Str) × List Str) (w : Str) : List (List Str) × List Str := if w = "or" then (acc.1 ++ [acc.2], []) else (acc.1, acc.2 ++ [w])
def splitOr (ws : List Str) : List (List Str) := (ws.foldl orS ([], [])).1 ++ [(ws.foldl orS ([], [])).2]
def waysF (ws : List Str) : Option (List PyData) := if ws = [] then some [] else if (splitOr ws).all (fun g => (wayF g).isSome) = true then some ((splitOr ws).map fun g => (wayF g).getD .none) else none
def findD (ws : List Str) (l : List PyData) : PyData := .tuple [.str "find", wD (ws.getD 1 e0), .list l]
def rowF (ws : List Str) : Option PyData :=
  if ws.getD 0 e0 ∈ (["tie", "leaf"] : List Str) then (if rowB (chD ws) = true then some (chD ws) else none)
  else if ws.getD 0 e0 = "find" ∧ 1 < ws.length then (match waysF (ws.drop 2) with | none => none | some l => if rowB (findD ws l) = true then some (findD ws l) else none)
  else none
def rowL (x : Str) : Option PyData := (partsF x).bind rowF
theorem nw_lstE {S : Addr → Prop} {H : Hp} {x : V} {ds : List PyData} (h : Nw S H x (.list ds)) : ∃ a xs, x = .ref a ∧ S a ∧ H a = some (.lst xs) ∧ Nws S H xs ds := by
  cases h with
  | lst s e hs => exact ⟨_, _, rfl, s, e, hs⟩
def grD (g : List Str) : PyData := .list (g.map wD)
theorem wnws_eq {S : Addr → Prop} {H : Hp} : ∀ {ws : List Str} {xs : List V}, Nws S H xs (ws.map wD) → xs = ws.map wV
  | [], _, h => by cases h; rfl
  | w :: ws, _, h => by
    cases h with
    | cons a b =>
      rw [wnws_eq b, List.map_cons]
      congr 1
      unfold wD at a
      unfold wV
      split at a
      · cases a; rfl
      · cases a; rfl
theorem orS_len (ws : List Str) : ∀ (acc : List (List Str) × List Str), (ws.foldl orS acc).1.length ≤ acc.1.length + ws.length := by
  induction ws with
  | nil => intro acc; exact Nat.le_refl _
  | cons w ws ih =>
    intro acc
    rw [List.foldl_cons, List.length_cons]
    have := ih (orS acc w)
    have h : (orS acc w).1.length ≤ acc.1.length + 1 := by
      unfold orS
      split
      · show (acc.1 ++ [acc.2]).length ≤ _
        rw [List.length_append]
        exact Nat.le_refl _
      · exact Nat.le_succ _
    omega
theorem orS_mem (ws : List Str) : ∀ (acc : List (List Str) × List Str) (n : Nat), (∀ g ∈ acc.1, g.length ≤ n) → acc.2.length ≤ n → (∀ g ∈ (ws.foldl orS acc).1, g.length ≤ n + ws.length) ∧ (ws.foldl orS acc).2.length ≤ n + ws.length := by
  induction ws with
  | nil => intro acc n h1 h2; exact ⟨h1, h2⟩
  | cons w ws ih =>
    intro acc n h1 h2
    rw [List.foldl_cons, List.length_cons]
    have := ih (orS acc w) (n + 1) (fun g hg => by
      unfold orS at hg
      split at hg
      · rcases List.mem_append.mp hg with hg | hg
        · have := h1 g hg; omega
        · rw [List.mem_singleton.mp hg]; omega
      · have := h1 g hg; omega) (by
      unfold orS
      split
      · exact Nat.zero_le _
      · show (acc.2 ++ [w]).length ≤ _
        rw [List.length_append]
        show _ + 1 ≤ _
        omega)
    exact ⟨fun g hg => by have := this.1 g hg; omega, by omega⟩
theorem split_len {ws : List Str} : (splitOr ws).length ≤ ws.length + 1 ∧ ∀ g ∈ splitOr ws, g.length ≤ ws.length := by
  have h1 := orS_len ws ([], [])
  obtain ⟨h2, h3⟩ := orS_mem ws ([], []) 0 (fun g hg => nomatch hg) (Nat.le_refl _)
  have h1 : (ws.foldl orS ([], [])).1.length ≤ 0 + ws.length := h1
  refine ⟨by unfold splitOr; rw [List.length_append]; show _ + 1 ≤ _; omega, fun g hg => ?_⟩
  unfold splitOr at hg
  rcases List.mem_append.mp hg with hg | hg
  · have := h2 g hg; omega
  · rw [List.mem_singleton.mp hg]; omega
def spWaysF (K : PySem.W.Frag) : Sp := fun vs H Q _ => ∃ (p : Addr) (ws : List Str), vs = [.ref p] ∧ H p = some (.lst (ws.map wV)) ∧ ws.length ≤ 60000 ∧ ∀ x H', Ext H H' → OptD (fun a => H a = none) H' ((waysF ws).map PyData.list) x → Q x H'
structure Pcs (H : Hp) (P c : Addr) (acc : List (List Str) × List Str) (H' : Hp) : Prop where
  e : Ext H H'
  pn : H P = none
  cn : H c = none
  cp : c ≠ P
  hc : H' c = some (.lst (acc.2.map wV))
  p : ∃ vs, H' P = some (.lst (vs ++ [.ref c])) ∧ Nws (fun a => a ≠ c ∧ a ≠ P ∧ H a = none) H' vs (acc.1.map grD)
theorem sc_ways_from : FnScope ["words", "ways", "pieces", "word", "piece", "way"] ["words"] (defScope s_ways_from) := ⟨rfl, rfl, rfl, by decide +kernel, rfl, by decide +kernel, by decide +kernel⟩
theorem ok_ways_from (T : Txt w K mg) : CalG P w K mg base 5 "ways_from" ["words"] (spWaysF K) := by
  have c_way_from := ok_way_from (P := P) (base := base) T
  refine calG_of T.g_ways_from T.d_ways_from sc_ways_from (fun _ _ _ _ _ _ _ us hl => match us, hl with | [_], _ => rfl) (fun vs H Q E h => by obtain ⟨_, _, rfl, _⟩ := h; rfl) (fun cdv A outer s H vs Q E hr h => ?_)
  have nd := sc_ways_from.nd
  have hu := hu64 hr
  obtain ⟨p, ws, rfl, hp, hl, k⟩ := h
  refine ⟨_, (pss_cons (ps_set (i := 1) nd rfl (Or.inl rfl) (pe_lst pa_nil))
        (pss_cons (ps_if (pt_cmpR (sameK (K := K) hu) (pe_callB (lenK (K := K)) (by rfl) T.f_len boot_len (pa_cons (pv 0) pa_nil)) pe_int (nomark _)) (pss_one (ps_ret (pv 1))) pss_nil)
        (pss_cons (ps_set (i := 2) nd rfl (Or.inl rfl) (pe_lst (pa_cons (pe_lst pa_nil) pa_nil)))
        (pss_cons (ps_for (passes_of rfl) rfl (piL (K := K) (pv 0)) (pg_name (i := 3) nd rfl (Or.inl rfl)) (pss_one (ps_if (pt_cmpR (sameK (K := K) hu) (pv 3) pe_str (nomark _)) (pss_one (ps_expr (peBM (K := K) (pe_bm PySem.F.plainAttrs_list PySem.F.slot_list_append PySem.F.type_list_append mt_append (pv 2) (pa_cons (pe_lst pa_nil) pa_nil))))) (pss_one (ps_expr (peBM (K := K) (pe_bm PySem.F.plainAttrs_list PySem.F.slot_list_append PySem.F.type_list_append mt_append (pe_ix (ixK (K := K)) (pv 2) (pe_un un_neg pe_int) (fun _ _ => rfl)) (pa_cons (pv 3) pa_nil))))))))
        (pss_cons (ps_for (passes_of rfl) rfl (piL (K := K) (pv 2)) (pg_name (i := 4) nd rfl (Or.inl rfl)) (pss_cons (ps_set (i := 5) nd rfl (Or.inl rfl) (pe_cal c_way_from hr (by omega) (fun σ => L2N.passAt (L2N.takes_of rfl rfl rfl rfl) σ) (pa_cons (pv 4) pa_nil)))
        (pss_cons (ps_if (pt_cmpR op_isN1 (pv 5) pe_non (nomark _)) (pss_one (ps_ret pe_non)) pss_nil)
        (pss_one (ps_expr (peBM (K := K) (pe_bm PySem.F.plainAttrs_list PySem.F.slot_list_append PySem.F.type_list_append mt_append (pv 1) (pa_cons (pv 5) pa_nil))))))))
        (pss_one (ps_ret (pv 1)))))))), ?_⟩
  walk_at "st"
  intro W H1 hW e1 h1
  walk_at "st"
  refine r_lenL (sqL (e1 _ _ hp)) (n := (ws.length : Nat)) (by rw [List.length_map]) ?_
  walk_at "st"
  refine ite_d (fun c => ?_) (fun c => ?_)
  · have e0' : ws = [] := List.eq_nil_of_length_eq_zero (by have := V.int.inj c; omega)
    walk_at "st"
    refine k _ H1 e1 ?_
    unfold waysF
    rw [if_pos e0']
    exact .lst hW h1 .nil
  have ne : ws ≠ [] := fun z => c (by rw [z]; rfl)
  walk_at "st"
  intro c0 H2 hc0 e2 h2
  walk_at "st"
  intro Pl H3 hP e3 h3
  have e02 := e1.trans e2
  have e03 := e02.trans e3
  have c0P : c0 ≠ Pl := ne_of_none h2 hP
  walk_at "st"
  refine r_li (sqL (e03 _ _ hp)) ?_
  have WH : ∀ {H' : Hp}, Ext H1 H' → H' W = some (.lst []) := fun e => e _ _ h1
  refine forW_list (fun i σ' H' => ∃ (c : Addr) (v3 : Option V), σ' = [some (.ref p), some (.ref W), some (.ref Pl), v3, none, none] ∧ Pcs H1 Pl c ((ws.take i).foldl orS ([], [])) H') ⟨c0, none, rfl, e2.trans e3, e2.none hP, hc0, c0P, e3 _ _ h2, [], h3, .nil⟩ (fun i σ' H' _ ⟨_, _, _, q⟩ => sqL (q.e _ _ (e1 _ _ hp))) ?_ ?_
  · rintro i y σ' H4 hy ⟨c, v3, rfl, q⟩
    have ii : i < ws.length := by have := (List.getElem?_eq_some_iff.mp hy).1; rwa [List.length_map] at this
    rw [wv_at ii] at hy
    cases hy
    obtain ⟨vs, hv, hvs⟩ := q.p
    have tk : (ws.take (i + 1)).foldl orS ([], []) = orS ((ws.take i).foldl orS ([], [])) (ws.getD i e0) := by
      rw [List.take_succ, List.getElem?_eq_getElem ii, List.foldl_append, List.getD_eq_getElem?_getD, List.getElem?_eq_getElem ii]
      rfl
    have lacc := orS_len (ws.take i) ([], [])
    have lmem := (orS_mem (ws.take i) ([], []) 0 (fun g hg => nomatch hg) (Nat.le_refl _)).2
    have ltk : (ws.take i).length ≤ ws.length := by rw [List.length_take]; omega
    have lacc : ((ws.take i).foldl orS ([], [])).1.length ≤ 0 + (ws.take i).length := lacc
    generalize (ws.take i).foldl orS ([], []) = acc at q tk hvs lacc lmem
    generalize ws.getD i e0 = wd at tk
    have lvs : vs.length = acc.1.length := by rw [hvs.len, List.length_map]
    walk_at "st"
    refine r_sameS (wv_scal _ _) ?_
    rw [wv_str sg_or]
    walk_at "st"
    refine ite_d (fun ce => ?_) (fun ce => ?_)
    · walk_at "st"
      refine ⟨.inl ⟨rfl, _, sqL hv⟩, ?_⟩
      walk_at "st"
      intro c2 H5 hc2 e5 h5
      walk_at "st"
      have c2c : c2 ≠ c := (ne_of_none q.hc hc2).symm
      have c2P : c2 ≠ Pl := (ne_of_none hv hc2).symm
      refine r_app (e5 _ _ hv) (by rw [List.length_append]; show _ + 1 < _; omega) (fun H6 h6 n6 => ?_)
      refine ⟨c2, _, rfl, mut_ext (q.e.trans e5) q.pn n6, q.pn, q.e.none hc2, c2P, ?_, vs ++ [.ref c], h6, ?_⟩
      · rw [tk]
        unfold orS
        rw [if_pos ce]
        exact (n6 _ c2P).trans h5
      · rw [tk]
        unfold orS
        rw [if_pos ce, List.map_append]
        have kp : ∀ a o, (a ≠ c ∧ a ≠ Pl ∧ H1 a = none) → H4 a = some o → H6 a = some o ∧ (a ≠ c2 ∧ a ≠ Pl ∧ H1 a = none) := fun a o s z => ⟨(n6 _ s.2.1).trans (e5 _ _ z), (ne_of_none z hc2), s.2.1, s.2.2⟩
        exact (hvs.keep kp _).append (.cons (.lst ⟨c2c.symm, q.cp, q.cn⟩ ((n6 _ q.cp).trans (e5 _ _ q.hc)) (wnws _)) .nil)
    · walk_at "st"
      refine r_atL (sqL hv) (atI_last _ _) ?_
      refine ⟨.inl ⟨rfl, _, sqL q.hc⟩, ?_⟩
      walk_at "st"
      refine r_app q.hc (by rw [List.length_map]; omega) (fun H6 h6 n6 => ?_)
      refine ⟨c, _, rfl, mut_ext q.e q.cn n6, q.pn, q.cn, q.cp, ?_, vs, (n6 _ q.cp.symm).trans hv, ?_⟩
      · rw [tk]
        unfold orS
        rw [if_neg ce, h6, List.map_append]
        rfl
      · rw [tk]
        unfold orS
        rw [if_neg ce]
        exact hvs.keep (fun a o s z => ⟨(n6 _ s.1).trans z, s⟩) _
  rintro σ' H4 ⟨c, v3, rfl, q⟩
  rw [List.length_map, List.take_length] at q
  obtain ⟨vs, hv, hvs⟩ := q.p
  have hcP := q.cp
  have nw4 : Nws (fun a => H1 a = none) H4 (vs ++ [.ref c]) ((splitOr ws).map grD) := by
    unfold splitOr
    rw [List.map_append]
    exact (hvs.keep (fun a o s z => ⟨z, s.2.2⟩) _).append (.cons (.lst q.cn q.hc (wnws _)) .nil)
  obtain ⟨sl1, sl2⟩ := split_len (ws := ws)
  have e14 := q.e
  have hW4 := WH e14
  have pn := q.pn
  clear q hvs
  generalize vs ++ [V.ref c] = xs at hv nw4
  walk_at "st"
  refine r_li (sqL hv) ?_
  have WP : W ≠ Pl := ne_of_none h1 pn
  have len4 : xs.length = (splitOr ws).length := by rw [nw4.len, List.length_map]
  refine forW_list (fun i σ' H' => ∃ (v4 v5 : Option V), σ' = [some (.ref p), some (.ref W), some (.ref Pl), v3, v4, v5] ∧ (∀ b o, b ≠ W → H4 b = some o → H' b = some o) ∧ Grow (fun a => H a = none ∧ a ≠ W) H' W (((splitOr ws).take i).map fun g => (wayF g).getD .none) ∧ ((splitOr ws).take i).all (fun g => (wayF g).isSome) = true) ⟨none, none, rfl, (fun b o _ h => h), .start hW4, rfl⟩ (fun i σ' H' _ ⟨_, _, _, u, _⟩ => sqL (u _ _ WP.symm hv)) ?_ ?_
  · rintro i y σ' H5 hy ⟨v4, v5, rfl, u5, g5, a5⟩
    have ii := (List.getElem?_eq_some_iff.mp hy).1
    have hd : ((splitOr ws).map grD)[i]? = some (grD ((splitOr ws)[i]'(by omega))) := by rw [List.getElem?_map, List.getElem?_eq_getElem (by omega)]; rfl
    obtain ⟨y', hy', ny⟩ := nw4.get hd
    rw [hy] at hy'
    cases hy'
    have gi : (splitOr ws)[i]? = some ((splitOr ws)[i]'(by omega)) := List.getElem?_eq_getElem _
    have gl := sl2 _ (List.getElem_mem (show i < (splitOr ws).length by omega))
    generalize (splitOr ws)[i]'(by omega) = g at ny gi gl
    obtain ⟨ga, gxs, rfl, gs, hg, gn⟩ := nw_lstE ny
    rw [wnws_eq gn] at hg
    have gW : ga ≠ W := fun z => by rw [z, h1] at gs; cases gs
    have hg5 := u5 _ _ gW hg
    walk_at "st"
    refine ⟨ga, g, rfl, sqL hg5, ⟨_, hg5⟩, by omega, fun x H6 e6 ox => ?_⟩
    walk_at "st"
    have tk : (splitOr ws).take (i + 1) = (splitOr ws).take i ++ [g] := by rw [List.take_succ, gi]; rfl
    cases hw : wayF g with
    | none =>
      rw [hw] at ox
      have ox : x = .non := ox
      subst ox
      refine ite_d (fun _ => ?_) (fun n => absurd rfl n)
      walk_at "st"
      have e06 : Ext H H6 := fun b o h => e6 _ _ (u5 _ _ (ne_of_none h hW) (e14 _ _ (e1 _ _ h)))
      refine k _ H6 e06 ?_
      unfold waysF
      rw [if_neg ne, if_neg]
      · rfl
      · rw [all_no gi (by rw [hw]; rfl)]
        exact Bool.noConfusion
    | some d =>
      rw [hw] at ox
      have ox : Nw (fun a => H5 a = none) H6 x d := ox
      have xn : x ≠ .non := fun z => by
        subst z
        have : d = .none := by cases ox; rfl
        subst this
        unfold wayF at hw
        split at hw
        · cases hw
        · split at hw
          · cases hw
          · cases hw
      refine ite_d (fun z => absurd z xn) (fun _ => ?_)
      walk_at "st"
      have g6 := g5.ext e6
      refine ⟨g6.ty, ?_⟩
      walk_at "st"
      obtain ⟨v5', hv5, _⟩ := g5.ex
      have hno : ∀ a, H5 a = none → H a = none := fun a s => by
        rcases h : H a with _ | o'
        · rfl
        · exact absurd (u5 _ _ (ne_of_none h hW) (e14 _ _ (e1 _ _ h))) (by rw [s]; exact fun z => nomatch z)
      refine g6.app (d := d) (by rw [List.length_map, List.length_take]; omega) (fun a s => s.2) (ox.keep (fun a o s z => ⟨z, hno a s, (ne_of_none hv5 s).symm⟩) _) (fun H7 n7 g7 => ?_)
      · refine ⟨_, _, rfl, fun b o bW h => (n7 _ bW).trans (e6 _ _ (u5 _ _ bW h)), ?_, ?_⟩
        · rw [tk, List.map_append]
          show Grow _ _ _ (_ ++ [(wayF g).getD .none])
          rw [hw]
          exact g7
        · exact all_take a5 gi (by rw [hw]; rfl)
  · rintro σ' H5 ⟨v4, v5, rfl, u5, g5, a5⟩
    rw [len4, List.take_length] at g5 a5
    walk_at "st"
    obtain ⟨vs5, h5, n5⟩ := g5.ex
    refine k _ H5 (fun b o h => u5 _ _ (ne_of_none h hW) (e14 _ _ (e1 _ _ h))) ?_
    unfold waysF
    rw [if_neg ne, if_pos a5]
    exact .lst hW h5 (n5.keep (fun a o s z => ⟨z, s.1⟩) _)
def spRowL (K : PySem.W.Frag) : Sp := fun vs H Q _ => ∃ x : Str, vs = [.str x] ∧ x.length ≤ 50000 ∧ ∀ y H', Ext H H' → OptD (fun a => H a = none) H' (rowL x) y → Q y H'
theorem wv_mem {x : Str} {ss : List Str} (h : ∀ s ∈ ss, sgnO s = none) : inV (wV x) (ss.map V.str) = decide (x ∈ ss) := by
  unfold wV
  cases e : sgnO x with
  | none => exact inV_strs
  | some n =>
    have hn : x ∉ ss := fun z => by have := h x z; rw [e] at this; cases this
    rw [decide_eq_false hn]
    unfold inV
    rw [Bool.eq_false_iff]
    intro z
    rw [List.any_eq_true] at z
    obtain ⟨y, hy, e2⟩ := z
    obtain ⟨s, hs, rfl⟩ := List.mem_map.mp hy
    cases e2
theorem wv_flat (x : Str) : flatV (wV x) = true := by
  unfold wV
  split <;> rfl
theorem r_inW {K : PySem.W.Frag} {H : Hp} {Q : VK} {t : Addr} {x : Str} {ss : List Str} (h : Seq K H t (ss.map V.str)) (hs : ∀ s ∈ ss, sgnO s = none) (k : Q (.bl (decide (x ∈ ss))) H) : rIn K false (wV x) (.ref t) H Q := ⟨t, _, rfl, h, wv_flat x, flat_strs ss, by rw [wv_mem hs]; exact k⟩
theorem sg_tl : ∀ s ∈ (["tie", "leaf"] : List Str), sgnO s = none := by
  have h : (["tie", "leaf"] : List Str).all (fun s => (sgnO s).isNone) = true := by decide +kernel
  exact fun s hs => Option.isNone_iff_eq_none.mp (List.all_eq_true.mp h s hs)
theorem partsF_ne {x : Str} {ws : List Str} (h : partsF x = some ws) : 0 < ws.length := by
  rw [← partsF_split h]
  exact List.length_pos_iff.mpr split_ne
theorem sc_row_from : FnScope ["line", "words", "row", "ways"] ["line"] (defScope s_row_from) := ⟨rfl, rfl, rfl, by decide +kernel, rfl, by decide +kernel, by decide +kernel⟩
theorem ok_row_from (T : Txt w K mg) : CalG P w K mg base 6 "row_from" ["line"] (spRowL K) := by
  have c_line_words := ok_line_words (P := P) (base := base) T
  have c_ways_from := ok_ways_from (P := P) (base := base) T
  have c_right_row := ok_right_row (P := P) (base := base) T
  refine calG_of T.g_row_from T.d_row_from sc_row_from (fun _ _ _ _ _ _ _ us hl => match us, hl with | [_], _ => rfl) (fun vs H Q E h => by obtain ⟨_, rfl, _⟩ := h; rfl) (fun cdv A outer s H vs Q E hr h => ?_)
  have nd := sc_row_from.nd
  have hu := hu64 hr
  obtain ⟨x, rfl, hl, k⟩ := h
  refine ⟨_, (pss_cons (ps_set (i := 1) nd rfl (Or.inl rfl) (pe_cal c_line_words hr (by omega) (fun σ => L2N.passAt (L2N.takes_of rfl rfl rfl rfl) σ) (pa_cons (pv 0) pa_nil)))
        (pss_cons (ps_if (pt_cmpR op_isN1 (pv 1) pe_non (nomark _)) (pss_one (ps_ret pe_non)) pss_nil)
        (pss_cons (ps_if (pt_cmpR (inK (K := K)) (pe_ix (ixK (K := K)) (pv 1) pe_int (fun _ _ => rfl)) (pe_tup (pa_cons pe_str (pa_cons pe_str pa_nil))) (by rfl)) (pss_one (ps_set (i := 2) nd rfl (Or.inl rfl) (pe_callTy (tupK (K := K)) (by rfl) T.f_tuple (by decide +kernel) (pa_cons (pv 1) pa_nil)))) (pss_one (ps_if (PW.pt (pw_and (pt_cmpR (sameK (K := K) hu) (pe_ix (ixK (K := K)) (pv 1) pe_int (fun _ _ => rfl)) pe_str (nomark _)) (pw_and1 (pt_cmpR op_gt (pe_callB (lenK (K := K)) (by rfl) T.f_len boot_len (pa_cons (pv 1) pa_nil)) pe_int (nomark _))))) (pss_cons (ps_set (i := 3) nd rfl (Or.inl rfl) (pe_cal c_ways_from hr (by omega) (fun σ => L2N.passAt (L2N.takes_of rfl rfl rfl rfl) σ) (pa_cons (pe_slice (slK (K := K)) (pv 1) (po_some pe_int) po_none) pa_nil)))
        (pss_cons (ps_if (pt_cmpR op_isN1 (pv 3) pe_non (nomark _)) (pss_one (ps_ret pe_non)) pss_nil)
        (pss_one (ps_set (i := 2) nd rfl (Or.inl rfl) (pe_tup (pa_cons pe_str (pa_cons (pe_ix (ixK (K := K)) (pv 1) pe_int (fun _ _ => rfl)) (pa_cons (pv 3) pa_nil)))))))) (pss_one (ps_ret pe_non)))))
        (pss_one (ps_ret (pe_ifExp (pt_val (pe_cal c_right_row hr (by omega) (fun σ => L2N.passAt (L2N.takes_of rfl rfl rfl rfl) σ) (pa_cons (pv 2) pa_nil))) (pv 2) pe_non)))))), ?_⟩
  walk_at "st"
  refine ⟨x, rfl, by omega, fun ws hw q H1 hq e1 h1 => ?_, fun hn H1 e1 => ?_⟩
  · have lw := (partsF_len hw).2
    have l0 := partsF_ne hw
    have er : rowL x = rowF ws := by unfold rowL; rw [hw]; rfl
    rw [er] at k
    walk_at "st"
    refine ite_d (fun z => nomatch z) (fun _ => ?_)
    walk_at "st"
    refine r_atL (sqL h1) (atI_nat (j := 0) (wv_at l0)) ?_
    walk_at "st"
    intro t H2 ht e2 h2
    refine r_inW (ss := (["tie", "leaf"] : List Str)) (.inr (sqT h2)) sg_tl ?_
    have e12 := e1.trans e2
    have h1' := e2 _ _ h1
    walk_at "st"
    unfold rowF at k
    refine ite_d (fun c => ?_) (fun c => ?_)
    · rw [if_pos c] at k
      walk_at "st"
      refine r_tupL (sqL h1') (fun t2 H3 ht2 e3 h3 => ?_)
      walk_at "st"
      have nw : Nw (fun a => H a = none) H3 (.ref t2) (chD ws) := nw_tupC (e12.none ht2) h3
      refine ⟨_, _, rfl, nw.dp _, fun H4 e4 => ?_⟩
      walk_at "st"
      cases hb : rowB (chD ws) with
      | true =>
        rw [if_pos hb] at k
        walk_at "st"
        exact k _ H4 ((e12.trans e3).trans e4) (nw_ext nw e4)
      | false =>
        rw [if_neg (by rw [hb]; exact Bool.noConfusion)] at k
        walk_at "st"
        exact k _ H4 ((e12.trans e3).trans e4) rfl
    rw [if_neg c] at k
    walk_at "st"
    refine r_atL (sqL h1') (atI_nat (j := 0) (wv_at l0)) ?_
    refine r_sameS (wv_scal _ _) ?_
    rw [wv_str sg_find]
    walk_at "st"
    refine ite_d (fun c1 => ?_) (fun c1 => ?_)
    · walk_at "st"
      refine r_lenL (sqL h1') (n := (ws.length : Nat)) (by rw [List.length_map]) ?_
      walk_at "st"
      refine ite_d (fun c2 => ?_) (fun c2 => ?_)
      · have l1 : 1 < ws.length := by omega
        rw [if_pos ⟨c1, l1⟩] at k
        walk_at "st"
        refine r_slL (sqL h1') (fun u H3 hu3 e3 h3 => ?_)
        rw [show cutV (ws.map wV) (some 2) none = (ws.drop 2).map wV by rw [show (2 : Int) = ((2 : Nat) : Int) from rfl, cut_from, List.map_drop]] at h3
        walk_at "st"
        have e13 := e12.trans e3
        refine ⟨u, _, rfl, h3, by rw [List.length_drop]; omega, fun y H4 e4 oy => ?_⟩
        have e14 := e13.trans e4
        walk_at "st"
        cases hw2 : waysF (ws.drop 2) with
        | none =>
          rw [hw2] at oy k
          have oy : y = .non := oy
          subst oy
          refine ite_d (fun _ => ?_) (fun n => absurd rfl n)
          walk_at "st"
          exact k _ H4 e14 rfl
        | some l =>
          rw [hw2] at oy k
          have oy : Nw (fun a => H3 a = none) H4 y (.list l) := oy
          obtain ⟨la, lxs, rfl, ls, hla, ln⟩ := nw_lstE oy
          refine ite_d (fun z => nomatch z) (fun _ => ?_)
          walk_at "st"
          refine r_atL (sqL (e4 _ _ (e3 _ _ h1'))) (atI_nat (j := 1) (wv_at l1)) ?_
          walk_at "st"
          intro t2 H5 ht2 e5 h5
          walk_at "st"
          have e15 := e14.trans e5
          have nw : Nw (fun a => H a = none) H5 (.ref t2) (findD ws l) := .tup (e14.none ht2) h5 (.cons (.str _) (.cons (wnw _) (.cons (oy.keep (fun a o s z => ⟨e5 _ _ z, e13.none s⟩) _) .nil)))
          refine ⟨_, _, rfl, nw.dp _, fun H6 e6 => ?_⟩
          have k : ∀ (y : V) (H' : Hp), Ext H H' → OptD (fun a => H a = none) H' (if rowB (findD ws l) = true then some (findD ws l) else none) y → Q y H' := k
          walk_at "st"
          cases hb : rowB (findD ws l) with
          | true =>
            rw [if_pos hb] at k
            walk_at "st"
            exact k _ H6 (e15.trans e6) (nw_ext nw e6)
          | false =>
            rw [if_neg (by rw [hb]; exact Bool.noConfusion)] at k
            walk_at "st"
            exact k _ H6 (e15.trans e6) rfl
      · rw [if_neg (fun z => c2 (by have := z.2; omega))] at k
        walk_at "st"
        exact k _ H2 e12 rfl
    · rw [if_neg (fun z => c1 z.1)] at k
      walk_at "st"
      exact k _ H2 e12 rfl
  · have er : rowL x = none := by unfold rowL; rw [hn]; rfl
    rw [er] at k
    walk_at "st"
    refine ite_d (fun _ => ?_) (fun n => absurd rfl n)
    walk_at "st"
    exact k _ H1 e1 rfl

end
end K35
set_option maxRecDepth 100000
set_option maxHeartbeats 4000000
namespace K35
open PySem PySem.Spec PyProof.Rows L2 L3
local macro_rules | `(tactic| walk_at "s1") => `(tactic| first
  | with_reducible refine r_seq ?_
  | with_reducible refine r_asgN ?_
  | with_reducible refine r_ret ?_
  | with_reducible refine r_next ?_
  | ((with_reducible refine' r_var ?hv ?_); (case hv => exact rfl))
  | with_reducible refine r_c ?_
  | with_reducible refine r_op ?_
  | with_reducible refine r_cons ?_
  | with_reducible refine r_nil ?_
  | with_reducible refine r_plusI ?_
  | with_reducible refine r_I0 ?_
  | with_reducible refine r_test ?_
  | with_reducible refine r_bl ?_
  | with_reducible refine r_ifS ?_
  | with_reducible refine r_cb ?_
  | with_reducible refine r_callS ?_
  | with_reducible refine r_and ?_
  | with_reducible refine r_or ?_
  | with_reducible refine r_not ?_
  | with_reducible refine r_B ?_
  | ((with_reducible refine' r_aug ?hv ?_); (case hv => exact rfl))
  | with_reducible refine r_augS ?_
  | with_reducible refine r_ipI ?_
  | with_reducible refine r_asg ?_
  | with_reducible refine r_sub ?_
  | with_reducible refine r_brk ?_
  | with_reducible refine r_isN1 ?_
  | with_reducible refine r_notN1 ?_
  | with_reducible refine r_intI ?_
  | with_reducible refine r_abs ?_
  | with_reducible refine r_min ?_
  | with_reducible refine r_max ?_
  | ((with_reducible refine' r_mod ?hz ?_); (case hz => omega))
  | ((with_reducible refine' r_pow ?hz ?_); (case hz => exact ⟨by decide, by decide, by decide⟩))
  | ((with_reducible refine' r_rg1 ?hz ?_); (case hz => omega))
  | ((with_reducible refine' r_rg2 ?hz ?_); (case hz => omega))
  | ((with_reducible refine' r_newL ?hz ?_); (case hz => exact Nat.le_of_ble_eq_true rfl))
  | ((with_reducible refine' r_newT ?hz ?_); (case hz => exact Nat.le_of_ble_eq_true rfl))
  | with_reducible refine r_for ?_
  | with_reducible refine r_lc ?_
  | with_reducible refine r_iR1 ?_
  | with_reducible refine r_iR2 ?_
  | with_reducible refine r_iL ?_
  | with_reducible refine r_iT ?_
  | with_reducible refine r_gname ?_
  | with_reducible refine r_gcons ?_
  | with_reducible refine r_gnil ?_
  | with_reducible refine r_yes ?_
  | with_reducible refine r_mkO ?_
  | with_reducible refine r_cont ?_
  | with_reducible refine r_drop ?_
  | with_reducible refine r_retN ?_
  | with_reducible refine r_ifC ?_
  | with_reducible refine r_ifI ?_
  | with_reducible refine r_if ?_
  | with_reducible refine r_un ?_
  | with_reducible refine r_neg ?_
  | with_reducible refine r_andV ?_
  | with_reducible refine r_orV ?_
  | with_reducible refine r_notV ?_
  | with_reducible refine r_tup ?_
  | with_reducible refine r_lst ?_
  | with_reducible refine r_bm ?_
  | with_reducible refine r_bm0 ?_
  | with_reducible refine r_sl ?_
  | with_reducible refine r_chain ?_
  | with_reducible refine r_listDn ?_
  | with_reducible refine r_listRg2 ?_
  | with_reducible refine r_listRg1 ?_
  | with_reducible refine r_revL ?_
  | with_reducible refine r_noPart ?_
  | with_reducible refine r_meth ?_
  | with_reducible refine r_methE ?_
  | with_reducible refine r_js ?_
  | with_reducible refine r_jsC ?_
  | with_reducible refine r_jsN ?_
  | with_reducible refine r_fmt ?_
  | with_reducible refine r_fld ?_
  | with_reducible refine r_sfld ?_
  | with_reducible refine r_make ?_
  | with_reducible refine r_m1 ?_
  | with_reducible refine r_m1s ?_
  | with_reducible refine r_iS ?_
  | with_reducible refine r_iE ?_
  | with_reducible refine r_si ?_
  | with_reducible refine r_strS ?_
  | with_reducible refine r_dgt ?_
  | with_reducible refine r_din ?_
  | with_reducible refine r_dnin ?_
  | with_reducible refine r_dput ?_
  | with_reducible refine r_dnew ?_
  | with_reducible refine r_disp1 ?_
  | with_reducible refine r_lenSet ?_
  | with_reducible refine r_get2 ?_
  | with_reducible refine r_get1 ?_
  | with_reducible refine r_daug ?_
  | with_reducible refine r_iR3 ?_
  | with_reducible refine r_prC ?_
  | with_reducible refine r_prN ?_
  | with_reducible refine r_part ?_
  | with_reducible refine r_int ?_
  | ((with_reducible refine' r_sameS ?hs ?_); (case hs => exact rfl))
  | ((with_reducible refine' r_otherS ?hs ?_); (case hs => exact rfl))
  | with_reducible refine ite_t ?_
  | with_reducible refine ite_f ?_
  | with_reducible refine ite_nt ?_
  | with_reducible refine ite_nf ?_)
local macro_rules | `(tactic| walk_at "st") => `(tactic| repeat (walk_at "s1"))
local macro_rules | `(tactic| walk_at "su") => `(tactic| first
  | with_reducible refine r_seq ?_
  | with_reducible refine r_asgN ?_
  | with_reducible refine r_ret ?_
  | with_reducible refine r_next ?_
  | ((with_reducible refine' r_var ?hv ?_); (case hv => exact rfl))
  | with_reducible refine r_c ?_
  | with_reducible refine r_op ?_
  | with_reducible refine r_cons ?_
  | with_reducible refine r_nil ?_
  | with_reducible refine r_plusI ?_
  | with_reducible refine r_I0 ?_
  | with_reducible refine r_test ?_
  | with_reducible refine r_bl ?_
  | with_reducible refine r_cb ?_
  | with_reducible refine r_callS ?_
  | with_reducible refine r_and ?_
  | with_reducible refine r_or ?_
  | with_reducible refine r_not ?_
  | with_reducible refine r_B ?_
  | ((with_reducible refine' r_aug ?hv ?_); (case hv => exact rfl))
  | with_reducible refine r_augS ?_
  | with_reducible refine r_ipI ?_
  | with_reducible refine r_asg ?_
  | with_reducible refine r_sub ?_
  | with_reducible refine r_brk ?_
  | with_reducible refine r_isN1 ?_
  | with_reducible refine r_notN1 ?_
  | with_reducible refine r_intI ?_
  | with_reducible refine r_abs ?_
  | with_reducible refine r_min ?_
  | with_reducible refine r_max ?_
  | ((with_reducible refine' r_mod ?hz ?_); (case hz => omega))
  | ((with_reducible refine' r_pow ?hz ?_); (case hz => exact ⟨by decide, by decide, by decide⟩))
  | ((with_reducible refine' r_rg1 ?hz ?_); (case hz => omega))
  | ((with_reducible refine' r_rg2 ?hz ?_); (case hz => omega))
  | ((with_reducible refine' r_newL ?hz ?_); (case hz => exact Nat.le_of_ble_eq_true rfl))
  | ((with_reducible refine' r_newT ?hz ?_); (case hz => exact Nat.le_of_ble_eq_true rfl))
  | with_reducible refine r_for ?_
  | with_reducible refine r_lc ?_
  | with_reducible refine r_iR1 ?_
  | with_reducible refine r_iR2 ?_
  | with_reducible refine r_iL ?_
  | with_reducible refine r_iT ?_
  | with_reducible refine r_gname ?_
  | with_reducible refine r_gcons ?_
  | with_reducible refine r_gnil ?_
  | with_reducible refine r_yes ?_
  | with_reducible refine r_mkO ?_
  | with_reducible refine r_cont ?_
  | with_reducible refine r_drop ?_
  | with_reducible refine r_retN ?_
  | with_reducible refine r_ifC ?_
  | with_reducible refine r_ifI ?_
  | with_reducible refine r_if ?_
  | with_reducible refine r_un ?_
  | with_reducible refine r_neg ?_
  | with_reducible refine r_andV ?_
  | with_reducible refine r_orV ?_
  | with_reducible refine r_notV ?_
  | with_reducible refine r_tup ?_
  | with_reducible refine r_lst ?_
  | with_reducible refine r_bm ?_
  | with_reducible refine r_bm0 ?_
  | with_reducible refine r_sl ?_
  | with_reducible refine r_chain ?_
  | with_reducible refine r_listDn ?_
  | with_reducible refine r_listRg2 ?_
  | with_reducible refine r_listRg1 ?_
  | with_reducible refine r_revL ?_
  | with_reducible refine r_noPart ?_
  | with_reducible refine r_meth ?_
  | with_reducible refine r_methE ?_
  | with_reducible refine r_js ?_
  | with_reducible refine r_jsC ?_
  | with_reducible refine r_jsN ?_
  | with_reducible refine r_fmt ?_
  | with_reducible refine r_fld ?_
  | with_reducible refine r_sfld ?_
  | with_reducible refine r_make ?_
  | with_reducible refine r_m1 ?_
  | with_reducible refine r_m1s ?_
  | with_reducible refine r_iS ?_
  | with_reducible refine r_iE ?_
  | with_reducible refine r_si ?_
  | with_reducible refine r_strS ?_
  | with_reducible refine r_dgt ?_
  | with_reducible refine r_din ?_
  | with_reducible refine r_dnin ?_
  | with_reducible refine r_dput ?_
  | with_reducible refine r_dnew ?_
  | with_reducible refine r_disp1 ?_
  | with_reducible refine r_lenSet ?_
  | with_reducible refine r_get2 ?_
  | with_reducible refine r_get1 ?_
  | with_reducible refine r_daug ?_
  | with_reducible refine r_iR3 ?_
  | with_reducible refine r_prC ?_
  | with_reducible refine r_prN ?_
  | with_reducible refine r_part ?_
  | with_reducible refine r_int ?_
  | ((with_reducible refine' r_sameS ?hs ?_); (case hs => exact rfl))
  | ((with_reducible refine' r_otherS ?hs ?_); (case hs => exact rfl))
  | with_reducible refine ite_t ?_
  | with_reducible refine ite_f ?_
  | with_reducible refine ite_nt ?_
  | with_reducible refine ite_nf ?_)
local macro_rules | `(tactic| walk_at "sv") => `(tactic| repeat (walk_at "su"))

section
variable {P : Program} {w : World} {K : PySem.W.Frag} {mg : Str → Option Value} {base : Heap}
theorem sci_TooMany : FnScope ["self", "what"] ["self", "what"] (defScope i_TooMany) := ⟨rfl, rfl, rfl, by decide +kernel, rfl, by decide +kernel, by decide +kernel⟩
theorem ci_TooMany (T : Txt w K mg) : ErrI P w K mg base "TooMany" ["self", "what"] (spI1 (He.ga K "TooMany") "what") := by
  refine errI_of T.d_TooMany sci_TooMany (fun _ _ _ _ _ _ _ us hl => match us, hl with | [_, _], _ => rfl) (fun vs H Q E h => by obtain ⟨a, v0, rfl, _⟩ := h; rfl) (fun cdv A outer s H vs Q E hr h => ?_)
  obtain ⟨a, v0, rfl, ha, k⟩ := h
  refine ⟨_, pss_one (ps_ost (pv 0) (pv 1)), ?_⟩
  exact r_ost1 T.e_TooMany.o (T.e_TooMany.no _ (by simp)) ha rfl rfl k
theorem sci_BadText : FnScope ["self", "line"] ["self", "line"] (defScope i_BadText) := ⟨rfl, rfl, rfl, by decide +kernel, rfl, by decide +kernel, by decide +kernel⟩
theorem ci_BadText (T : Txt w K mg) : ErrI P w K mg base "BadText" ["self", "line"] (spI1 (He.ga K "BadText") "line") := by
  refine errI_of T.d_BadText sci_BadText (fun _ _ _ _ _ _ _ us hl => match us, hl with | [_, _], _ => rfl) (fun vs H Q E h => by obtain ⟨a, v0, rfl, _⟩ := h; rfl) (fun cdv A outer s H vs Q E hr h => ?_)
  obtain ⟨a, v0, rfl, ha, k⟩ := h
  refine ⟨_, pss_one (ps_ost (pv 0) (pv 1)), ?_⟩
  exact r_ost1 T.e_BadText.o (T.e_BadText.no _ (by simp)) ha rfl rfl k
theorem sci_BadCode : FnScope ["self", "row", "what"] ["self", "row", "what"] (defScope i_BadCode) := ⟨rfl, rfl, rfl, by decide +kernel, rfl, by decide +kernel, by decide +kernel⟩
theorem ci_BadCode (T : Txt w K mg) : ErrI P w K mg base "BadCode" ["self", "row", "what"] (spI2 (He.ga K "BadCode") "row" "what") := by
  refine errI_of T.d_BadCode sci_BadCode (fun _ _ _ _ _ _ _ us hl => match us, hl with | [_, _, _], _ => rfl) (fun vs H Q E h => by obtain ⟨a, v0, v1, rfl, _⟩ := h; rfl) (fun cdv A outer s H vs Q E hr h => ?_)
  obtain ⟨a, v0, v1, rfl, ha, k⟩ := h
  refine ⟨_, pss_cons (ps_ost (pv 0) (pv 1)) (pss_one (ps_ost (pv 0) (pv 2))), ?_⟩
  refine r_seq (r_ost1 T.e_BadCode.o (T.e_BadCode.no _ (by simp)) ha rfl rfl fun dx hd hne => ?_)
  exact r_ost2 T.e_BadCode.o (T.e_BadCode.no _ (by simp)) upd_same (by rw [upd_ne hne, upd_same]) (by show 1 ≤ 900; decide) rfl rfl (k dx hd hne)
/-! ### the bounds -/
def spBound (K : PySem.W.Frag) : Sp := fun vs H Q E => ∃ (what : Str) (lim n : Int), vs = [.str what, .int n] ∧ (what, lim) ∈ kv_LIMITS ∧
  (lim < n → ∀ d H', H d = none → Ext H H' → H' d = some (.xd [("what", .str what)]) → E (.ref (He.ga K "TooMany")) (some d) H') ∧ (¬ lim < n → Q .non H)
theorem sc_bound : FnScope ["what", "number"] ["what", "number"] (defScope s_bound) := ⟨rfl, rfl, rfl, by decide +kernel, rfl, by decide +kernel, by decide +kernel⟩
theorem ok_bound (T : Txt w K mg) : CalG P w K mg base 4 "bound" ["what", "number"] (spBound K) := by
  have c_TooMany : ErrI P w K mg base "TooMany" ["self", "what"] _ := ci_TooMany T
  refine calG_of T.g_bound T.d_bound sc_bound (fun _ _ _ _ _ _ _ us hl => match us, hl with | [_, _], _ => rfl) (fun vs H Q E h => by obtain ⟨c, k, n, rfl, _⟩ := h; rfl) (fun cdv A outer s H vs Q E hr h => ?_)
  have nd := sc_bound.nd
  have hu := hu64 hr
  obtain ⟨what, lim, n, rfl, hm, hb, hg⟩ := h
  refine ⟨_, (pss_one (ps_if (pt_cmpR op_gt (pv 1) (pe_ix (kdictK (K := K)) (pe_gl T.g_LIMITS) (pv 0) (fun _ _ => rfl)) (nomark _)) (pss_one (L2N.ps_raise rfl (L2N.takes_of rfl rfl rfl rfl) (pmk_errI T.e_TooMany c_TooMany hr (by decide) T.g_TooMany (pa_cons (pv 0) pa_nil)))) pss_nil)), ?_⟩
  walk_at "st"
  refine ⟨_, _, _, rfl, rfl, T.t_LIMITS _ _ hm, ?_⟩
  walk_at "st"
  refine ite_d (fun c => ?_) (fun c => ?_)
  · walk_at "st"
    exact r_mk1 (hb c)
  · walk_at "st"
    exact hg c

/-! ### copies, all in new places -/
def spCopied (K : PySem.W.Frag) (n : Nat) : Sp := fun vs H Q _ => ∃ (x : V) (d : PyData), vs = [x] ∧ Dp K H x d ∧ smallD n d ∧ ∀ y H', Ext H H' → Nw (fun a => H a = none) H' y d → Q y H'
/-- the copies made so far, at D -/
def Cops (H1 : Hp) (D : Addr) (ds : List PyData) (i : Nat) (H' : Hp) : Prop := Ext H1 H' ∧ ∃ ys, H' D = some (.lst ys) ∧ ys.length = i ∧ Nws (fun a => H1 a = none ∧ a ≠ D) H' ys (ds.take i)
theorem Cops.push {H1 H2 H3 : Hp} {D : Addr} {ds : List PyData} {i : Nat} {e : PyData} {y : V} (h : Cops H1 D ds i H2) (hD : H1 D = none) (he : ds[i]? = some e) (hi : i < 16777216) (e3 : Ext H2 H3) (c : Nw (fun a => H2 a = none) H3 y e) :
    ∃ acc, H3 D = some (.lst acc) ∧ acc.length < sizeLine ∧ Cops H1 D ds (i + 1) (upd H3 D (.lst (acc ++ [y]))) := by
  obtain ⟨e2, ys, hy, hyl, hys⟩ := h
  refine ⟨ys, e3 _ _ hy, by rw [hyl, sizeLine_eq]; exact hi, Ext.mut (e2.trans e3) hD, ys ++ [y], upd_same, by rw [List.length_append, hyl]; rfl, ?_⟩
  rw [List.take_succ, he]
  refine (hys.keep (fun a o s q => ⟨by rw [upd_ne s.2]; exact e3 _ _ q, s⟩) _).append (.cons (c.keep (fun a o s q => ?_) e) .nil)
  have aD : a ≠ D := fun z => by rw [z, hy] at s; cases s
  exact ⟨by rw [upd_ne aD]; exact q, e2.none s, aD⟩
theorem lcW_tup {K : PySem.W.Frag} {σ : L2.St} {H : Hp} {g : TG} {tt : TT} {te : TE} {a : Addr} {xs : List V} {vs : List Nat} {Dl : Addr} {Qd : Hp → Prop} (Pv : Nat → Hp → Prop) (h0 : Pv 0 (upd H Dl (.lst []))) (hl : ∀ i H, i ≤ xs.length → Pv i H → SqT K H a xs)
    (hs : ∀ i x H, xs[i]? = some x → Pv i H → g x (wipe σ vs) H fun σ2 H2 => wipe σ2 vs = wipe σ vs ∧ tt σ2 H2 fun b H3 =>
      if b = true then te σ2 H3 fun y H4 => ∃ acc, H4 Dl = some (.lst acc) ∧ acc.length < sizeLine ∧ Pv (i + 1) (upd H4 Dl (.lst (acc ++ [y]))) else Pv (i + 1) H3) (hd : ∀ H, Pv xs.length H → Qd H) : LcW (Itt K a) g tt te vs σ Dl Qd H := lc_tup Pv h0 hl hs hd
theorem sc_copied : FnScope ["thing", "one"] ["thing"] (defScope s_copied) := ⟨rfl, rfl, rfl, by decide +kernel, rfl, by decide +kernel, by decide +kernel⟩
theorem okcopied (T : Txt w K mg) : ∀ n, CalG P w K mg base (n + 2) "copied" ["thing"] (spCopied K n)
  | 0 => (calG_false T.g_copied T.d_copied (fun _ _ _ _ _ _ _ us hl => match us, hl with | [_], _ => rfl)).imp fun vs H Q E ⟨_, _, _, _, z, _⟩ => z.elim
  | n + 1 => by
    have c_copied := okcopied T n
    refine calG_of T.g_copied T.d_copied sc_copied (fun _ _ _ _ _ _ _ us hl => match us, hl with | [_], _ => rfl) (fun vs H Q E h => by obtain ⟨c, d, rfl, _⟩ := h; rfl) (fun cdv A outer s H vs Q E hr h => ?_)
    have nd := sc_copied.nd
    have hu := hu64 hr
    obtain ⟨x, d, rfl, hx, hd, k⟩ := h
    refine ⟨_, (pss_cons (ps_if (pt_val (pe_callB (isiK (K := K)) (by rfl) T.f_isinstance (by decide +kernel) (pa_cons (pv 0) (pa_cons (pe_ty T.f_list) pa_nil)))) (pss_one (ps_ret (pe_lc (own := [("one", 1)]) rfl nd (piL (K := K) (pv 0)) (blkOk_by (N := ["thing", "one"]) (sc := defScope s_copied) (by decide +kernel)) (fun _ _ _ _ _ => (pg_name (i := 1) nd rfl (Or.inl rfl))) (fun _ _ _ _ _ => pts_nil) (fun _ _ _ _ _ => (pe_cal c_copied hr (by omega) passN (pa_cons (pv 1) pa_nil)))))) pss_nil)
        (pss_cons (ps_if (pt_val (pe_callB (isiK (K := K)) (by rfl) T.f_isinstance (by decide +kernel) (pa_cons (pv 0) (pa_cons (pe_ty T.f_tuple) pa_nil)))) (pss_one (ps_ret (pe_callTy (tupK (K := K)) (by rfl) T.f_tuple (by decide +kernel) (pa_cons (pe_lc (own := [("one", 1)]) rfl nd (piT (K := K) (pv 0)) (blkOk_by (N := ["thing", "one"]) (sc := defScope s_copied) (by decide +kernel)) (fun _ _ _ _ _ => (pg_name (i := 1) nd rfl (Or.inl rfl))) (fun _ _ _ _ _ => pts_nil) (fun _ _ _ _ _ => (pe_cal c_copied hr (by omega) passN (pa_cons (pv 1) pa_nil)))) pa_nil)))) pss_nil)
        (pss_one (ps_ret (pv 0))))), ?_⟩
    have hsz := hd.1
    have hsub := hd.2
    have flat : (itemsD d = []) → (Nw (fun a => H a = none) H x d) → Q x H := fun _ h => k x H .rfl h
    walk_at "st"
    refine r_isi (b := "list") hx (by simp) ?_
    cases hx with
    | lst h hs =>
      rename_i a xs ds
      rw [show isB (tyD (.list ds)) "list" = true by simp [isB, tyD]]
      walk_at "st"
      refine r_li h ?_
      intro D hD
      have hxl := dps_len hs
      refine lcW_list (Cops H D ds) ⟨.new hD, [], upd_same, rfl, by rw [List.take_zero]; exact .nil⟩ (fun i H' _ p => p.1.l h) ?_ ?_
      · intro i y H2 hy p
        have hi : i < ds.length := by rw [← hxl]; exact (List.getElem?_eq_some_iff.mp hy).1
        have ed : ds[i]? = some ds[i] := List.getElem?_eq_getElem hi
        obtain ⟨x', ex, hx'⟩ := dps_get hs ed
        rw [hy] at ex
        cases ex
        have hz : ds.length ≤ 100000 := hsz
        walk_at "st"
        refine r_lcW rfl ?_
        walk_at "st"
        exact ⟨y, ds[i], rfl, p.1.dp _ hx', hsub _ (List.getElem_mem hi), fun z H3 e3 c => p.push hD ed (by omega) e3 c⟩
      · rintro H2 ⟨e2, ys, hy, hyl, hys⟩
        rw [hxl, List.take_length] at hys
        refine k (.ref D) H2 e2 (.lst hD hy (hys.keep (fun a o s q => ⟨q, s.1⟩) _))
    | tup h hs =>
      rename_i a xs ds
      rw [show isB (tyD (.tuple ds)) "list" = false by simp [isB, tyD]]
      walk_at "st"
      refine r_isi (b := "tuple") (d := .tuple ds) (.tup h hs) (by simp) ?_
      rw [show isB (tyD (.tuple ds)) "tuple" = true by simp [isB, tyD]]
      walk_at "st"
      refine r_ti h ?_
      intro D hD
      have hxl := dps_len hs
      refine lcW_tup (Cops H D ds) ⟨.new hD, [], upd_same, rfl, by rw [List.take_zero]; exact .nil⟩ (fun i H' _ p => p.1.tu h) ?_ ?_
      · intro i y H2 hy p
        have hi : i < ds.length := by rw [← hxl]; exact (List.getElem?_eq_some_iff.mp hy).1
        have ed : ds[i]? = some ds[i] := List.getElem?_eq_getElem hi
        obtain ⟨x', ex, hx'⟩ := dps_get hs ed
        rw [hy] at ex
        cases ex
        have hz : ds.length ≤ 100000 := hsz
        walk_at "st"
        refine r_lcW rfl ?_
        walk_at "st"
        exact ⟨y, ds[i], rfl, p.1.dp _ hx', hsub _ (List.getElem_mem hi), fun z H3 e3 c => p.push hD ed (by omega) e3 c⟩
      · rintro H2 ⟨e2, ys, hy, hyl, hys⟩
        rw [hxl, List.take_length] at hys
        walk_at "st"
        refine ⟨D, ys, rfl, .inl ⟨sqL hy, fun l hl => ?_⟩⟩
        have e3 : Ext H2 (upd H2 l (.tup ys)) := .new hl
        refine k (.ref l) _ (e2.trans e3) (.tup (e2.none hl) upd_same (hys.keep (fun a o s q => ⟨e3 _ _ q, s.1⟩) _))
    | non =>
      rw [show isB (tyD .none) "list" = false by simp [isB, tyD]]
      walk_at "st"
      refine r_isi (b := "tuple") (d := .none) .non (by simp) ?_
      rw [show isB (tyD .none) "tuple" = false by simp [isB, tyD]]
      walk_at "st"
      exact flat rfl (.non)
    | bl b =>
      rw [show isB (tyD (.bool b)) "list" = false by simp [isB, tyD]]
      walk_at "st"
      refine r_isi (b := "tuple") (d := .bool b) (.bl b) (by simp) ?_
      rw [show isB (tyD (.bool b)) "tuple" = false by simp [isB, tyD]]
      walk_at "st"
      exact flat rfl (.bl b)
    | int b =>
      rw [show isB (tyD (.int b)) "list" = false by simp [isB, tyD]]
      walk_at "st"
      refine r_isi (b := "tuple") (d := .int b) (.int b) (by simp) ?_
      rw [show isB (tyD (.int b)) "tuple" = false by simp [isB, tyD]]
      walk_at "st"
      exact flat rfl (.int b)
    | str b =>
      rw [show isB (tyD (.str b)) "list" = false by simp [isB, tyD]]
      walk_at "st"
      refine r_isi (b := "tuple") (d := .str b) (.str b) (by simp) ?_
      rw [show isB (tyD (.str b)) "tuple" = false by simp [isB, tyD]]
      walk_at "st"
      exact flat rfl (.str b)

/-! ### bounds, codes -/
def wcnt : PyData → Nat
  | .tuple [.str k, _, .list l] => if k = "find" then l.length else 0
  | _ => 0
def manyB (d : PyData) : Bool := decide (7 < wcnt d)
def Bad1 (K : PySem.W.Frag) (E : XK) (H : Hp) (C f : Str) (v : V) : Prop := ∀ d H', H d = none → Ext H H' → H' d = some (.xd [(f, v)]) → E (.ref (He.ga K C)) (some d) H'
def spBWays (K : PySem.W.Frag) : Sp := fun vs H Q E => ∃ (x : V) (rows : List PyData), vs = [x] ∧ Dp K H x (.list rows) ∧ (if rows.any manyB = true then Bad1 K E H "TooMany" "what" (.str "ways") else ∀ H', Ext H H' → Q .non H')
theorem any_take {α : Type} {f : α → Bool} {l : List α} {i : Nat} {d : α} (h : (l.take i).any f = false) (hd : l[i]? = some d) (hf : f d = false) : (l.take (i + 1)).any f = false := by
  rw [List.take_succ, hd, List.any_append, h]
  show (f d || false) = false
  rw [hf]
  rfl
theorem any_yes {α : Type} {f : α → Bool} {l : List α} {i : Nat} {d : α} (hd : l[i]? = some d) (hf : f d = true) : l.any f = true := List.any_eq_true.mpr ⟨d, List.mem_of_getElem? hd, hf⟩
theorem Bad1.ext {K : PySem.W.Frag} {E : XK} {H H' : Hp} {C f : Str} {v : V} (b : Bad1 K E H C f v) (e : Ext H H') : Bad1 K E H' C f v := fun d H2 hd e2 h2 => b d H2 (e.none hd) (e.trans e2) h2
theorem sc_bound_ways : FnScope ["rows", "row"] ["rows"] (defScope s_bound_ways) := ⟨rfl, rfl, rfl, by decide +kernel, rfl, by decide +kernel, by decide +kernel⟩
theorem ok_bound_ways (T : Txt w K mg) : CalG P w K mg base 5 "bound_ways" ["rows"] (spBWays K) := by
  have c_bound := ok_bound (P := P) (base := base) T
  have c_is_kind := ok_is_kind (P := P) (base := base) T
  refine calG_of T.g_bound_ways T.d_bound_ways sc_bound_ways (fun _ _ _ _ _ _ _ us hl => match us, hl with | [_], _ => rfl) (fun vs H Q E h => by obtain ⟨_, _, rfl, _⟩ := h; rfl) (fun cdv A outer s H vs Q E hr h => ?_)
  have nd := sc_bound_ways.nd
  have hu := hu64 hr
  obtain ⟨x, rows, rfl, hx, k⟩ := h
  obtain ⟨p, xs, rfl, hp, hs⟩ := dp_lstE hx
  refine ⟨_, (pss_one (ps_for (passes_of rfl) rfl (piL (K := K) (pv 0)) (pg_name (i := 1) nd rfl (Or.inl rfl)) (pss_one (ps_if (PW.pt (pw_and (pt_val (pe_cal c_is_kind hr (by omega) (fun σ => L2N.passAt (L2N.takes_of rfl rfl rfl rfl) σ) (pa_cons (pv 1) (pa_cons pe_int pa_nil)))) (pw_and (pt_cmpR (sameK (K := K) hu) (pe_ix (ixK (K := K)) (pv 1) pe_int (fun _ _ => rfl)) pe_str (nomark _)) (pw_and1 (pt_val (pe_callB (isiK (K := K)) (by rfl) T.f_isinstance (by decide +kernel) (pa_cons (pe_ix (ixK (K := K)) (pv 1) pe_int (fun _ _ => rfl)) (pa_cons (pe_ty T.f_list) pa_nil)))))))) (pss_one (ps_expr (pe_cal c_bound hr (by omega) (fun σ => L2N.passAt (L2N.takes_of rfl rfl rfl rfl) σ) (pa_cons pe_str (pa_cons (pe_callB (lenK (K := K)) (by rfl) T.f_len boot_len (pa_cons (pe_ix (ixK (K := K)) (pv 1) pe_int (fun _ _ => rfl)) pa_nil)) pa_nil))))) pss_nil)))), ?_⟩
  walk_at "st"
  refine r_li hp ?_
  refine forW_list (fun i σ' H' => ∃ v, σ' = [some (.ref p), v] ∧ Ext H H' ∧ (rows.take i).any manyB = false) ⟨none, rfl, .rfl, rfl⟩ (fun i σ' H' _ ⟨_, _, e, _⟩ => e.l hp) ?_ ?_
  · rintro i y σ' H1 hy ⟨v, rfl, e1, hn⟩
    obtain ⟨d, hd, hyd⟩ := dps_at hs hy
    have no : manyB d = false → ∀ H', Ext H H' → ∃ v : Option V, [some (V.ref p), some y] = [some (.ref p), v] ∧ Ext H H' ∧ (rows.take (i + 1)).any manyB = false := fun hb H' e => ⟨_, rfl, e, any_take hn hd hb⟩
    walk_at "st"
    refine ⟨y, d, 3, rfl, by decide, e1.dp _ hyd, fun H2 e2 => ?_⟩
    have e12 := e1.trans e2
    walk_at "st"
    cases c3 : kindB d 3 with
    | false =>
      walk_at "st"
      refine no ?_ H2 e12
      unfold manyB
      have : wcnt d = 0 := by
        cases d with
        | tuple ds =>
          match ds with
          | [] => rfl
          | [a] => cases a <;> rfl
          | [a, b] => cases a <;> rfl
          | [a, b, c] =>
            cases a with
            | str s => exact absurd c3 (by show ¬ decide (2 + 1 = 3) = false; decide)
            | _ => rfl
          | a :: b :: c :: e :: r => cases a <;> first | rfl | (cases c <;> rfl)
        | _ => rfl
      rw [this]
      rfl
    | true =>
      obtain ⟨kd, a, b, rfl⟩ := kind3 c3
      obtain ⟨q, qs, rfl, hq, hqs⟩ := dp_tupE hyd
      obtain ⟨y, ys, rfl, hy, hqs⟩ := dpa_consE hqs
      obtain ⟨z, zs, rfl, hz, hqs⟩ := dpa_consE hqs
      obtain ⟨u, us, rfl, hu', hqs⟩ := dpa_consE hqs
      obtain rfl := dp_strE hy
      walk_at "st"
      refine r_atT (e12.tu hq) (atI_nat (j := 0) rfl) ?_
      walk_at "st"
      refine ite_d (fun c1 => ?_) (fun c1 => ?_)
      · have c1 : kd = "find" := V.str.inj c1
        walk_at "st"
        refine r_atT (e12.tu hq) (atI_nat (j := 2) rfl) ?_
        walk_at "st"
        refine r_isi (b := "list") (e12.dp _ hu') (by simp) ?_
        cases b with
        | list l =>
          rw [show isB (tyD (.list l)) "list" = true by simp [isB, tyD]]
          walk_at "st"
          refine r_atT (e12.tu hq) (atI_nat (j := 2) rfl) ?_
          obtain ⟨lp, ls, rfl, hlp, hls⟩ := dp_lstE hu'
          walk_at "st"
          refine r_lenL (e12.l hlp) (n := (l.length : Nat)) (by rw [dps_len hls]) ?_
          walk_at "st"
          have ew : wcnt (.tuple [.str kd, a, .list l]) = l.length := by show (if kd = "find" then l.length else 0) = _; rw [if_pos c1]
          refine ⟨"ways", 7, _, rfl, by simp [kv_LIMITS], fun c d H3 hd3 e3 h3 => ?_, fun c => ?_⟩
          · rw [if_pos (any_yes hd (by unfold manyB; rw [ew]; exact decide_eq_true (by omega)))] at k
            exact k d H3 (e12.none hd3) (e12.trans e3) h3
          · exact no (by unfold manyB; rw [ew]; exact decide_eq_false (by omega)) H2 e12
        | none => rw [show isB (tyD .none) "list" = false by simp [isB, tyD]]; walk_at "st"; exact no rfl H2 e12
        | bool b => rw [show isB (tyD (.bool b)) "list" = false by simp [isB, tyD]]; walk_at "st"; exact no rfl H2 e12
        | int i => rw [show isB (tyD (.int i)) "list" = false by simp [isB, tyD]]; walk_at "st"; exact no rfl H2 e12
        | str s => rw [show isB (tyD (.str s)) "list" = false by simp [isB, tyD]]; walk_at "st"; exact no rfl H2 e12
        | tuple l => rw [show isB (tyD (.tuple l)) "list" = false by simp [isB, tyD]]; walk_at "st"; exact no rfl H2 e12
        | dict l => cases hu'
      · have c1 : ¬ kd = "find" := fun z => c1 (congrArg V.str z)
        walk_at "st"
        refine no ?_ H2 e12
        unfold manyB
        have : wcnt (.tuple [.str kd, a, b]) = 0 := by
          cases b with
          | list l => show (if kd = "find" then l.length else 0) = _; rw [if_neg c1]
          | _ => rfl
        rw [this]
        rfl
  · rintro σ' H1 ⟨v, rfl, e1, hn⟩
    rw [dps_len hs, List.take_length] at hn
    rw [if_neg (by rw [hn]; exact Bool.noConfusion)] at k
    walk_at "st"
    exact k H1 e1
def bigN (w : Str) : Bool := match sgnO w with | some n => decide ((10 ^ 30 : Int) < if n < 0 then -n else n) | none => false
def bigL (x : Str) : Bool := match partsF x with | some ws => ws.any bigN | none => false
def spBNum (K : PySem.W.Frag) : Sp := fun vs H Q E => ∃ (p : Addr) (ls : List Str), vs = [.ref p] ∧ SqL K H p (ls.map V.str) ∧ (∀ x ∈ ls, x.length ≤ 50000 ∧ (partsF x).isSome = true) ∧ (if ls.any bigL = true then Bad1 K E H "TooMany" "what" (.str "number") else ∀ H', Ext H H' → Q .non H')
theorem sc_bound_numbers : FnScope ["lines", "line", "word"] ["lines"] (defScope s_bound_numbers) := ⟨rfl, rfl, rfl, by decide +kernel, rfl, by decide +kernel, by decide +kernel⟩
theorem ok_bound_numbers (T : Txt w K mg) : CalG P w K mg base 4 "bound_numbers" ["lines"] (spBNum K) := by
  have c_line_words := ok_line_words (P := P) (base := base) T
  have c_TooMany : ErrI P w K mg base "TooMany" ["self", "what"] _ := ci_TooMany T
  refine calG_of T.g_bound_numbers T.d_bound_numbers sc_bound_numbers (fun _ _ _ _ _ _ _ us hl => match us, hl with | [_], _ => rfl) (fun vs H Q E h => by obtain ⟨_, _, rfl, _⟩ := h; rfl) (fun cdv A outer s H vs Q E hr h => ?_)
  have nd := sc_bound_numbers.nd
  have hu := hu64 hr
  obtain ⟨p, ls, rfl, hp, hls, k⟩ := h
  refine ⟨_, (pss_one (ps_for (passes_of rfl) rfl (piL (K := K) (pv 0)) (pg_name (i := 1) nd rfl (Or.inl rfl)) (pss_one (ps_for (passes_of rfl) rfl (piL (K := K) (pe_cal c_line_words hr (by omega) (fun σ => L2N.passAt (L2N.takes_of rfl rfl rfl rfl) σ) (pa_cons (pv 1) pa_nil))) (pg_name (i := 2) nd rfl (Or.inl rfl)) (pss_one (ps_if (PW.pt (pw_and (pt_val (pe_callB (isiK (K := K)) (by rfl) T.f_isinstance (by decide +kernel) (pa_cons (pv 2) (pa_cons (pe_ty T.f_int) pa_nil)))) (pw_and1 (pt_cmpR op_gt (pe_callB cr_abs (by rfl) T.f_abs (by decide +kernel) (pa_cons (pv 2) pa_nil)) (pe_op op_pow pe_int pe_int) (nomark _))))) (pss_one (L2N.ps_raise rfl (L2N.takes_of rfl rfl rfl rfl) (pmk_errI T.e_TooMany c_TooMany hr (by decide) T.g_TooMany (pa_cons pe_str pa_nil)))) pss_nil)))))), ?_⟩
  walk_at "st"
  refine r_li hp ?_
  refine forW_list (fun i σ' H' => ∃ v v2, σ' = [some (.ref p), v, v2] ∧ Ext H H' ∧ (ls.take i).any bigL = false) ⟨none, none, rfl, .rfl, rfl⟩ (fun i σ' H' _ ⟨_, _, _, e, _⟩ => e.l hp) ?_ ?_
  · rintro i y σ' H1 hy ⟨v, v2, rfl, e1, hn⟩
    rw [List.getElem?_map] at hy
    obtain ⟨x, hx, rfl⟩ := Option.map_eq_some_iff.mp hy
    obtain ⟨hl, hsm⟩ := hls x (List.mem_of_getElem? hx)
    obtain ⟨ws, hw⟩ := Option.isSome_iff_exists.mp hsm
    have eb : bigL x = ws.any bigN := by unfold bigL; rw [hw]
    walk_at "st"
    refine ⟨x, rfl, by omega, fun ws' hw' q H2 hq e2 h2 => ?_, fun hn => by rw [hw] at hn; cases hn⟩
    rw [hw] at hw'
    cases hw'
    have e12 := e1.trans e2
    refine r_li (sqL h2) ?_
    refine forW_list (fun j σ' H' => ∃ v2, σ' = [some (.ref p), some (.str x), v2] ∧ Ext H2 H' ∧ (ws.take j).any bigN = false) ⟨v2, rfl, .rfl, rfl⟩ (fun j σ' H' _ ⟨_, _, e, _⟩ => sqL (e _ _ h2)) ?_ ?_
    · rintro j y σ' H3 hy ⟨v2, rfl, e3, hn3⟩
      rw [List.getElem?_map] at hy
      obtain ⟨wd, hwd, rfl⟩ := Option.map_eq_some_iff.mp hy
      have e13 := e12.trans e3
      walk_at "st"
      refine r_isi (b := "int") (wdp wd) (by simp) ?_
      walk_at "st"
      unfold wV wD
      cases hs : sgnO wd with
      | none =>
        rw [show isB (tyD (.str wd)) "int" = false by simp [isB, tyD]]
        walk_at "st"
        exact ⟨_, rfl, e3, any_take hn3 hwd (by unfold bigN; rw [hs])⟩
      | some n =>
        rw [show isB (tyD (.int n)) "int" = true by simp [isB, tyD]]
        walk_at "st"
        refine ite_d (fun c => ?_) (fun c => ?_)
        · walk_at "st"
          have hb : bigN wd = true := by unfold bigN; rw [hs]; exact decide_eq_true c
          rw [if_pos (any_yes hx (by rw [eb]; exact any_yes hwd hb))] at k
          exact r_mk1 (k.ext e13)
        · walk_at "st"
          exact ⟨_, rfl, e3, any_take hn3 hwd (by unfold bigN; rw [hs]; exact decide_eq_false c)⟩
    · rintro σ' H3 ⟨v2, rfl, e3, hn3⟩
      rw [List.length_map, List.take_length] at hn3
      exact ⟨_, _, rfl, e12.trans e3, any_take hn hx (by rw [eb]; exact hn3)⟩
  · rintro σ' H1 ⟨v, v2, rfl, e1, hn⟩
    rw [List.length_map, List.take_length] at hn
    rw [if_neg (by rw [hn]; exact Bool.noConfusion)] at k
    walk_at "st"
    exact k H1 e1
/-! the class ReadCode -/
structure CodeAt (K : PySem.W.Frag) (S : Addr → Prop) (H : Hp) (o : Addr) (rows : List PyData) (h t : Int) : Prop where
  ex : ∃ dx y, H o = some (.ins (He.ga K "ReadCode") dx [("own_rows", y), ("own_head", .int h), ("own_tail", .int t)]) ∧ Nw S H y (.list rows)
def spCInit (K : PySem.W.Frag) : Sp := fun vs H Q _ => ∃ (a dx : Addr) (x : V) (rows : List PyData) (h t : Int), vs = [.ref a, x, .int h, .int t] ∧ H a = some (.ins (He.ga K "ReadCode") dx []) ∧ Dp K H x (.list rows) ∧ smallD 7 (.list rows) ∧
  ∀ H', (∀ b o, b ≠ a → H b = some o → H' b = some o) → CodeAt K (fun b => b ≠ a ∧ H b = none) H' a rows h t → Q .non H'
theorem sc_ReadCode___init__ : FnScope ["self", "rows", "head", "tail"] ["self", "rows", "head", "tail"] (defScope m_ReadCode___init__) := ⟨rfl, rfl, rfl, by decide +kernel, rfl, by decide +kernel, by decide +kernel⟩
theorem ok_ReadCode_init (T : Txt w K mg) : CalM P w K mg base 10 "ReadCode" "__init__" ["self", "rows", "head", "tail"] (spCInit K) := by
  have c_copied := okcopied (P := P) (base := base) T 7
  refine calM_of T.d_ReadCode___init__ sc_ReadCode___init__ (fun _ _ _ _ _ _ _ us hl => match us, hl with | [_, _, _, _], _ => rfl) (fun vs H Q E h => by obtain ⟨_, _, _, _, _, _, rfl, _⟩ := h; rfl) (fun cdv A outer s H vs Q E hr h => ?_)
  have nd := sc_ReadCode___init__.nd
  have hu := hu64 hr
  obtain ⟨a, dx, x, rows, h, t, rfl, ha, hx, sm, k⟩ := h
  refine ⟨_, (pss_cons (ps_fld (pv 0) (pe_cal c_copied hr (by omega) (fun σ => L2N.passAt (L2N.takes_of rfl rfl rfl rfl) σ) (pa_cons (pv 1) pa_nil)) rfl)
        (pss_cons (ps_fld (pv 0) (pv 2) rfl)
        (pss_one (ps_fld (pv 0) (pv 3) rfl)))), ?_⟩
  walk_at "st"
  refine ⟨_, _, rfl, hx, sm, fun y H1 e1 w1 => ?_⟩
  walk_at "st"
  refine r_sf T.c_ReadCode T.na_ReadCode_own_rows (e1 _ _ ha) (by show 0 < 1000; decide) (fun H2 a2 n2 => ?_)
  walk_at "st"
  refine r_sf T.c_ReadCode T.na_ReadCode_own_head a2 (by show 1 < 1000; decide) (fun H3 a3 n3 => ?_)
  walk_at "st"
  refine r_sf T.c_ReadCode T.na_ReadCode_own_tail a3 (by show 2 < 1000; decide) (fun H4 a4 n4 => ?_)
  have m : ∀ b o, b ≠ a → H1 b = some o → H4 b = some o := fun b o hb h => (n4 b hb).trans ((n3 b hb).trans ((n2 b hb).trans h))
  refine k H4 (fun b o hb h => m b o hb (e1 _ _ h)) ⟨dx, y, a4, w1.keep (fun b o s z => ?_) _⟩
  have ba : b ≠ a := (ne_of_none ha s).symm
  exact ⟨m b o ba z, ba, s⟩
def spCRows (K : PySem.W.Frag) : Sp := fun vs H Q _ => ∃ (S : Addr → Prop) (o : Addr) (rows : List PyData) (h t : Int), vs = [.ref o] ∧ CodeAt K S H o rows h t ∧ smallD 7 (.list rows) ∧ ∀ y H', Ext H H' → Nw (fun a => H a = none) H' y (.list rows) → Q y H'
theorem sc_ReadCode_rows : FnScope ["self"] ["self"] (defScope m_ReadCode_rows) := ⟨rfl, rfl, rfl, by decide +kernel, rfl, by decide +kernel, by decide +kernel⟩
theorem ok_ReadCode_rows (T : Txt w K mg) : CalM P w K mg base 10 "ReadCode" "rows" ["self"] (spCRows K) := by
  have c_copied := okcopied (P := P) (base := base) T 7
  refine calM_of T.d_ReadCode_rows sc_ReadCode_rows (fun _ _ _ _ _ _ _ us hl => match us, hl with | [_], _ => rfl) (fun vs H Q E h => by obtain ⟨_, _, _, _, _, rfl, _⟩ := h; rfl) (fun cdv A outer s H vs Q E hr h => ?_)
  have nd := sc_ReadCode_rows.nd
  have hu := hu64 hr
  obtain ⟨S, o, rows, h, t, rfl, ⟨dx, y, ho, nw⟩, sm, k⟩ := h
  refine ⟨_, (pss_one (ps_ret (pe_cal c_copied hr (by omega) (fun σ => L2N.passAt (L2N.takes_of rfl rfl rfl rfl) σ) (pa_cons (pe_fldK (K := K) (pv 0)) pa_nil)))), ?_⟩
  walk_at "st"
  refine r_fd T.c_ReadCode T.na_ReadCode_own_rows ho rfl ?_
  walk_at "st"
  exact ⟨_, _, rfl, nw.dp _, sm, k⟩
def spCNum (K : PySem.W.Frag) (f : Int → Int → Int) : Sp := fun vs H Q _ => ∃ (S : Addr → Prop) (o : Addr) (rows : List PyData) (h t : Int), vs = [.ref o] ∧ CodeAt K S H o rows h t ∧ Q (.int (f h t)) H
theorem sc_ReadCode_head : FnScope ["self"] ["self"] (defScope m_ReadCode_head) := ⟨rfl, rfl, rfl, by decide +kernel, rfl, by decide +kernel, by decide +kernel⟩
theorem ok_ReadCode_head (T : Txt w K mg) : CalM P w K mg base 1 "ReadCode" "head" ["self"] (spCNum K fun h _ => h) := by
  refine calM_of T.d_ReadCode_head sc_ReadCode_head (fun _ _ _ _ _ _ _ us hl => match us, hl with | [_], _ => rfl) (fun vs H Q E h => by obtain ⟨_, _, _, _, _, rfl, _⟩ := h; rfl) (fun cdv A outer s H vs Q E hr h => ?_)
  have nd := sc_ReadCode_head.nd
  have hu := hu64 hr
  obtain ⟨S, o, rows, h, t, rfl, ⟨dx, y, ho, nw⟩, k⟩ := h
  refine ⟨_, (pss_one (ps_ret (pe_fldK (K := K) (pv 0)))), ?_⟩
  walk_at "st"
  exact r_fd T.c_ReadCode T.na_ReadCode_own_head ho rfl k
theorem sc_ReadCode_tail : FnScope ["self"] ["self"] (defScope m_ReadCode_tail) := ⟨rfl, rfl, rfl, by decide +kernel, rfl, by decide +kernel, by decide +kernel⟩
theorem ok_ReadCode_tail (T : Txt w K mg) : CalM P w K mg base 1 "ReadCode" "tail" ["self"] (spCNum K fun _ t => t) := by
  refine calM_of T.d_ReadCode_tail sc_ReadCode_tail (fun _ _ _ _ _ _ _ us hl => match us, hl with | [_], _ => rfl) (fun vs H Q E h => by obtain ⟨_, _, _, _, _, rfl, _⟩ := h; rfl) (fun cdv A outer s H vs Q E hr h => ?_)
  have nd := sc_ReadCode_tail.nd
  have hu := hu64 hr
  obtain ⟨S, o, rows, h, t, rfl, ⟨dx, y, ho, nw⟩, k⟩ := h
  refine ⟨_, (pss_one (ps_ret (pe_fldK (K := K) (pv 0)))), ?_⟩
  walk_at "st"
  exact r_fd T.c_ReadCode T.na_ReadCode_own_tail ho rfl k

end
end K35
set_option maxRecDepth 100000
set_option maxHeartbeats 4000000
namespace K35
open PySem PySem.Spec PyProof.Rows L2 L3
local macro_rules | `(tactic| walk_at "s1") => `(tactic| first
  | with_reducible refine r_seq ?_
  | with_reducible refine r_asgN ?_
  | with_reducible refine r_ret ?_
  | with_reducible refine r_next ?_
  | ((with_reducible refine' r_var ?hv ?_); (case hv => exact rfl))
  | with_reducible refine r_c ?_
  | with_reducible refine r_op ?_
  | with_reducible refine r_cons ?_
  | with_reducible refine r_nil ?_
  | with_reducible refine r_plusI ?_
  | with_reducible refine r_I0 ?_
  | with_reducible refine r_test ?_
  | with_reducible refine r_bl ?_
  | with_reducible refine r_ifS ?_
  | with_reducible refine r_cb ?_
  | with_reducible refine r_callS ?_
  | with_reducible refine r_and ?_
  | with_reducible refine r_or ?_
  | with_reducible refine r_not ?_
  | with_reducible refine r_B ?_
  | ((with_reducible refine' r_aug ?hv ?_); (case hv => exact rfl))
  | with_reducible refine r_augS ?_
  | with_reducible refine r_ipI ?_
  | with_reducible refine r_asg ?_
  | with_reducible refine r_sub ?_
  | with_reducible refine r_brk ?_
  | with_reducible refine r_isN1 ?_
  | with_reducible refine r_notN1 ?_
  | with_reducible refine r_intI ?_
  | with_reducible refine r_abs ?_
  | with_reducible refine r_min ?_
  | with_reducible refine r_max ?_
  | ((with_reducible refine' r_mod ?hz ?_); (case hz => omega))
  | ((with_reducible refine' r_pow ?hz ?_); (case hz => exact ⟨by decide, by decide, by decide⟩))
  | ((with_reducible refine' r_rg1 ?hz ?_); (case hz => omega))
  | ((with_reducible refine' r_rg2 ?hz ?_); (case hz => omega))
  | ((with_reducible refine' r_newL ?hz ?_); (case hz => exact Nat.le_of_ble_eq_true rfl))
  | ((with_reducible refine' r_newT ?hz ?_); (case hz => exact Nat.le_of_ble_eq_true rfl))
  | with_reducible refine r_for ?_
  | with_reducible refine r_lc ?_
  | with_reducible refine r_iR1 ?_
  | with_reducible refine r_iR2 ?_
  | with_reducible refine r_iL ?_
  | with_reducible refine r_iT ?_
  | with_reducible refine r_gname ?_
  | with_reducible refine r_gcons ?_
  | with_reducible refine r_gnil ?_
  | with_reducible refine r_yes ?_
  | with_reducible refine r_mkO ?_
  | with_reducible refine r_cont ?_
  | with_reducible refine r_drop ?_
  | with_reducible refine r_retN ?_
  | with_reducible refine r_ifC ?_
  | with_reducible refine r_ifI ?_
  | with_reducible refine r_if ?_
  | with_reducible refine r_un ?_
  | with_reducible refine r_neg ?_
  | with_reducible refine r_andV ?_
  | with_reducible refine r_orV ?_
  | with_reducible refine r_notV ?_
  | with_reducible refine r_tup ?_
  | with_reducible refine r_lst ?_
  | with_reducible refine r_bm ?_
  | with_reducible refine r_bm0 ?_
  | with_reducible refine r_sl ?_
  | with_reducible refine r_chain ?_
  | with_reducible refine r_listDn ?_
  | with_reducible refine r_listRg2 ?_
  | with_reducible refine r_listRg1 ?_
  | with_reducible refine r_revL ?_
  | with_reducible refine r_noPart ?_
  | with_reducible refine r_meth ?_
  | with_reducible refine r_methE ?_
  | with_reducible refine r_js ?_
  | with_reducible refine r_jsC ?_
  | with_reducible refine r_jsN ?_
  | with_reducible refine r_fmt ?_
  | with_reducible refine r_fld ?_
  | with_reducible refine r_sfld ?_
  | with_reducible refine r_make ?_
  | with_reducible refine r_m1 ?_
  | with_reducible refine r_m1s ?_
  | with_reducible refine r_iS ?_
  | with_reducible refine r_iE ?_
  | with_reducible refine r_si ?_
  | with_reducible refine r_strS ?_
  | with_reducible refine r_dgt ?_
  | with_reducible refine r_din ?_
  | with_reducible refine r_dnin ?_
  | with_reducible refine r_dput ?_
  | with_reducible refine r_dnew ?_
  | with_reducible refine r_disp1 ?_
  | with_reducible refine r_lenSet ?_
  | with_reducible refine r_get2 ?_
  | with_reducible refine r_get1 ?_
  | with_reducible refine r_daug ?_
  | with_reducible refine r_iR3 ?_
  | with_reducible refine r_prC ?_
  | with_reducible refine r_prN ?_
  | with_reducible refine r_part ?_
  | with_reducible refine r_int ?_
  | ((with_reducible refine' r_sameS ?hs ?_); (case hs => exact rfl))
  | ((with_reducible refine' r_otherS ?hs ?_); (case hs => exact rfl))
  | with_reducible refine ite_t ?_
  | with_reducible refine ite_f ?_
  | with_reducible refine ite_nt ?_
  | with_reducible refine ite_nf ?_)
local macro_rules | `(tactic| walk_at "st") => `(tactic| repeat (walk_at "s1"))
local macro_rules | `(tactic| walk_at "su") => `(tactic| first
  | with_reducible refine r_seq ?_
  | with_reducible refine r_asgN ?_
  | with_reducible refine r_ret ?_
  | with_reducible refine r_next ?_
  | ((with_reducible refine' r_var ?hv ?_); (case hv => exact rfl))
  | with_reducible refine r_c ?_
  | with_reducible refine r_op ?_
  | with_reducible refine r_cons ?_
  | with_reducible refine r_nil ?_
  | with_reducible refine r_plusI ?_
  | with_reducible refine r_I0 ?_
  | with_reducible refine r_test ?_
  | with_reducible refine r_bl ?_
  | with_reducible refine r_cb ?_
  | with_reducible refine r_callS ?_
  | with_reducible refine r_and ?_
  | with_reducible refine r_or ?_
  | with_reducible refine r_not ?_
  | with_reducible refine r_B ?_
  | ((with_reducible refine' r_aug ?hv ?_); (case hv => exact rfl))
  | with_reducible refine r_augS ?_
  | with_reducible refine r_ipI ?_
  | with_reducible refine r_asg ?_
  | with_reducible refine r_sub ?_
  | with_reducible refine r_brk ?_
  | with_reducible refine r_isN1 ?_
  | with_reducible refine r_notN1 ?_
  | with_reducible refine r_intI ?_
  | with_reducible refine r_abs ?_
  | with_reducible refine r_min ?_
  | with_reducible refine r_max ?_
  | ((with_reducible refine' r_mod ?hz ?_); (case hz => omega))
  | ((with_reducible refine' r_pow ?hz ?_); (case hz => exact ⟨by decide, by decide, by decide⟩))
  | ((with_reducible refine' r_rg1 ?hz ?_); (case hz => omega))
  | ((with_reducible refine' r_rg2 ?hz ?_); (case hz => omega))
  | ((with_reducible refine' r_newL ?hz ?_); (case hz => exact Nat.le_of_ble_eq_true rfl))
  | ((with_reducible refine' r_newT ?hz ?_); (case hz => exact Nat.le_of_ble_eq_true rfl))
  | with_reducible refine r_for ?_
  | with_reducible refine r_lc ?_
  | with_reducible refine r_iR1 ?_
  | with_reducible refine r_iR2 ?_
  | with_reducible refine r_iL ?_
  | with_reducible refine r_iT ?_
  | with_reducible refine r_gname ?_
  | with_reducible refine r_gcons ?_
  | with_reducible refine r_gnil ?_
  | with_reducible refine r_yes ?_
  | with_reducible refine r_mkO ?_
  | with_reducible refine r_cont ?_
  | with_reducible refine r_drop ?_
  | with_reducible refine r_retN ?_
  | with_reducible refine r_ifC ?_
  | with_reducible refine r_ifI ?_
  | with_reducible refine r_if ?_
  | with_reducible refine r_un ?_
  | with_reducible refine r_neg ?_
  | with_reducible refine r_andV ?_
  | with_reducible refine r_orV ?_
  | with_reducible refine r_notV ?_
  | with_reducible refine r_tup ?_
  | with_reducible refine r_lst ?_
  | with_reducible refine r_bm ?_
  | with_reducible refine r_bm0 ?_
  | with_reducible refine r_sl ?_
  | with_reducible refine r_chain ?_
  | with_reducible refine r_listDn ?_
  | with_reducible refine r_listRg2 ?_
  | with_reducible refine r_listRg1 ?_
  | with_reducible refine r_revL ?_
  | with_reducible refine r_noPart ?_
  | with_reducible refine r_meth ?_
  | with_reducible refine r_methE ?_
  | with_reducible refine r_js ?_
  | with_reducible refine r_jsC ?_
  | with_reducible refine r_jsN ?_
  | with_reducible refine r_fmt ?_
  | with_reducible refine r_fld ?_
  | with_reducible refine r_sfld ?_
  | with_reducible refine r_make ?_
  | with_reducible refine r_m1 ?_
  | with_reducible refine r_m1s ?_
  | with_reducible refine r_iS ?_
  | with_reducible refine r_iE ?_
  | with_reducible refine r_si ?_
  | with_reducible refine r_strS ?_
  | with_reducible refine r_dgt ?_
  | with_reducible refine r_din ?_
  | with_reducible refine r_dnin ?_
  | with_reducible refine r_dput ?_
  | with_reducible refine r_dnew ?_
  | with_reducible refine r_disp1 ?_
  | with_reducible refine r_lenSet ?_
  | with_reducible refine r_get2 ?_
  | with_reducible refine r_get1 ?_
  | with_reducible refine r_daug ?_
  | with_reducible refine r_iR3 ?_
  | with_reducible refine r_prC ?_
  | with_reducible refine r_prN ?_
  | with_reducible refine r_part ?_
  | with_reducible refine r_int ?_
  | ((with_reducible refine' r_sameS ?hs ?_); (case hs => exact rfl))
  | ((with_reducible refine' r_otherS ?hs ?_); (case hs => exact rfl))
  | with_reducible refine ite_t ?_
  | with_reducible refine ite_f ?_
  | with_reducible refine ite_nt ?_
  | with_reducible refine ite_nf ?_)
local macro_rules | `(tactic| walk_at "sv") => `(tactic| repeat (walk_at "su"))

section
variable {P : Program} {w : World} {K : PySem.W.Frag} {mg : Str → Option Value} {base : Heap}

/-! ### code_from -/
inductive OutC where
  | many (s : Str)
  | bad (n : Nat)
  | ok (rows : List PyData) (h t : Int)
def headF (ws : List Str) : Option (Int × Int) := if ws.length = 3 ∧ ws.getD 0 e0 = "code" ∧ (ws.drop 1).all plainB = true then some ((sgnO (ws.getD 1 e0)).getD 0, (sgnO (ws.getD 2 e0)).getD 0) else none
def headL (x : Str) : Option (Int × Int) := (partsF x).bind headF
def rowsB (ls : List Str) : Bool := (ls.drop 1).all fun x => (rowL x).isSome
def rowsO (ls : List Str) : List PyData := (ls.drop 1).map fun x => (rowL x).getD .none
def codeF (ls : List Str) : OutC :=
  if 4000 < ls.length then .many "paper" else match headL (ls.getD 0 e0) with
    | none => .bad 0
    | some (h, t) => if rowsB ls = true then (if ls.any bigL = true then .many "number" else if (rowsO ls).any manyB = true then .many "ways" else .ok (rowsO ls) h t) else .bad (1 + (ls.drop 1).findIdx fun x => (rowL x).isNone)
def OutK (K : PySem.W.Frag) (H : Hp) (Q : VK) (E : XK) : OutC → Prop
  | .many s => Bad1 K E H "TooMany" "what" (.str s)
  | .bad n => Bad1 K E H "BadText" "line" (.int ((n + 1 : Nat) : Int))
  | .ok rows h t => ∀ o H', Ext H H' → H o = none → CodeAt K (fun a => H a = none) H' o rows h t → smallD 7 (.list rows) → Q (.ref o) H'
theorem small_wd (n : Nat) (x : Str) : smallD (n + 1) (wD x) := by
  unfold wD
  split
  · exact small_int _ _
  · exact small_str _ _
theorem small_ch (n : Nat) {c : List Str} (h : c.length ≤ 100000) : smallD (n + 2) (chD c) := L3.small_tup (by rw [List.length_map]; exact h) fun e he => by
  obtain ⟨x, _, rfl⟩ := List.mem_map.mp he
  exact small_wd _ _
theorem chunk_each : ∀ (n : Nat) (ws : List Str), ws.length ≤ n → ∀ c ∈ chunkF ws, c.length ≤ 3
  | 0, ws, h, c, hc => by
    have : ws = [] := List.eq_nil_of_length_eq_zero (by omega)
    subst this
    rw [chunk_nil] at hc
    cases hc
  | n + 1, [], _, c, hc => by
    rw [chunk_nil] at hc
    cases hc
  | n + 1, w :: r, h, c, hc => by
    rw [chunk_cons] at hc
    have s2 : 2 ≤ stpN w ∧ stpN w ≤ 3 := by unfold stpN; split <;> omega
    rcases List.mem_cons.mp hc with rfl | hc
    · rw [List.length_take]
      omega
    · rw [List.length_cons] at h
      exact chunk_each n _ (by rw [List.length_drop, List.length_cons]; omega) c hc
theorem small_cons {n : Nat} {d : PyData} {ds : List PyData} (h : smallD n d) (k : ∀ e ∈ ds, smallD n e) : ∀ e ∈ d :: ds, smallD n e := fun e he => by
  rcases List.mem_cons.mp he with rfl | he
  · exact h
  · exact k e he
theorem small_nil {n : Nat} : ∀ e ∈ ([] : List PyData), smallD n e := fun e he => nomatch he
theorem small_way {ws : List Str} (h : ws.length ≤ 100000) : smallD 4 (wayD ws) := by
  refine L3.small_tup (Nat.le_of_ble_eq_true rfl) (small_cons (small_wd _ _) (small_cons (small_list ?_ fun e he => ?_) small_nil))
  · rw [List.length_map]
    have := chunk_len _ (ws.drop 1) (Nat.le_refl _)
    rw [List.length_drop] at this
    omega
  · obtain ⟨c, hc, rfl⟩ := List.mem_map.mp he
    have := chunk_each _ _ (Nat.le_refl _) c hc
    exact small_ch 0 (by omega)
theorem wayF_some {g : List Str} {d : PyData} (h : wayF g = some d) : d = wayD g ∧ wayB (wayD g) = true ∧ g ≠ [] := by
  unfold wayF at h
  split at h
  · cases h
  · rename_i ne
    split at h
    · rename_i hb
      cases h
      exact ⟨rfl, hb, ne⟩
    · cases h
theorem small_row {ws : List Str} {d : PyData} (h : rowF ws = some d) (hl : ws.length ≤ 60000) : smallD 6 d := by
  unfold rowF at h
  split at h
  · split at h
    · cases h
      exact small_ch 4 (by omega)
    · cases h
  · split at h
    · split at h
      · cases h
      · rename_i l hw
        split at h
        · cases h
          refine L3.small_tup (Nat.le_of_ble_eq_true rfl) (small_cons (small_str _ _) (small_cons (small_wd _ _) (small_cons ?_ small_nil)))
          unfold waysF at hw
          split at hw
          · cases hw
            exact small_list (Nat.zero_le _) small_nil
          · split at hw
            · rename_i ha
              cases hw
              obtain ⟨s1, s2⟩ := split_len (ws := ws.drop 2)
              rw [List.length_drop] at s1
              refine small_list (by rw [List.length_map]; omega) fun e he => ?_
              obtain ⟨g, hg, rfl⟩ := List.mem_map.mp he
              have := List.all_eq_true.mp ha g hg
              obtain ⟨d, hd⟩ := Option.isSome_iff_exists.mp this
              rw [hd]
              show smallD 4 d
              rw [(wayF_some hd).1]
              have := s2 g hg
              rw [List.length_drop] at this
              exact small_way (by omega)
            · cases hw
        · cases h
    · cases h
theorem small_rowL {x : Str} {d : PyData} (h : rowL x = some d) (hl : x.length ≤ 50000) : smallD 6 d := by
  unfold rowL at h
  cases hp : partsF x with
  | none => rw [hp] at h; cases h
  | some ws =>
    rw [hp] at h
    have := (partsF_len hp).2
    exact small_row h (by omega)
def spCode (K : PySem.W.Frag) : Sp := fun vs H Q E => ∃ (x : Str) (ls : List Str), vs = [.str x] ∧ x.length ≤ 1000000 ∧ Txt.split x "\n" = ls ∧ 0 < ls.length ∧ (∀ l ∈ ls, l.length ≤ 50000) ∧ OutK K H Q E (codeF ls)
theorem sc_code_from : FnScope ["text", "lines", "head", "rows", "at", "row"] ["text"] (defScope s_code_from) := ⟨rfl, rfl, rfl, by decide +kernel, rfl, by decide +kernel, by decide +kernel⟩
theorem ok_code_from (T : Txt w K mg) : CalG P w K mg base 12 "code_from" ["text"] (spCode K) := by
  have c_text_lines := ok_text_lines (P := P) (base := base) T
  have c_bound := ok_bound (P := P) (base := base) T
  have c_line_words := ok_line_words (P := P) (base := base) T
  have c_plain_numbers := ok_plain_numbers (P := P) (base := base) T
  have c_row_from := ok_row_from (P := P) (base := base) T
  have c_bound_numbers := ok_bound_numbers (P := P) (base := base) T
  have c_bound_ways := ok_bound_ways (P := P) (base := base) T
  have c_ReadCode_init := ok_ReadCode_init (P := P) (base := base) T
  have c_BadText : ErrI P w K mg base "BadText" ["self", "line"] _ := ci_BadText T
  refine calG_of T.g_code_from T.d_code_from sc_code_from (fun _ _ _ _ _ _ _ us hl => match us, hl with | [_], _ => rfl) (fun vs H Q E h => by obtain ⟨_, _, rfl, _⟩ := h; rfl) (fun cdv A outer s H vs Q E hr h => ?_)
  have nd := sc_code_from.nd
  have hu := hu64 hr
  obtain ⟨x, ls, rfl, hl, hsp, l0, hls, k⟩ := h
  refine ⟨_, (pss_cons (ps_set (i := 1) nd rfl (Or.inl rfl) (pe_cal c_text_lines hr (by omega) (fun σ => L2N.passAt (L2N.takes_of rfl rfl rfl rfl) σ) (pa_cons (pv 0) pa_nil)))
        (pss_cons (ps_expr (pe_cal c_bound hr (by omega) (fun σ => L2N.passAt (L2N.takes_of rfl rfl rfl rfl) σ) (pa_cons pe_str (pa_cons (pe_callB (lenK (K := K)) (by rfl) T.f_len boot_len (pa_cons (pv 1) pa_nil)) pa_nil))))
        (pss_cons (ps_set (i := 2) nd rfl (Or.inl rfl) (pe_cal c_line_words hr (by omega) (fun σ => L2N.passAt (L2N.takes_of rfl rfl rfl rfl) σ) (pa_cons (pe_ix (ixK (K := K)) (pv 1) pe_int (fun _ _ => rfl)) pa_nil)))
        (pss_cons (ps_if (PW.pt (pw_or (pt_cmpR op_isN1 (pv 2) pe_non (nomark _)) (pw_or (pt_cmpR (otherK (K := K) hu) (pe_callB (lenK (K := K)) (by rfl) T.f_len boot_len (pa_cons (pv 2) pa_nil)) pe_int (nomark _)) (pw_or (pt_cmpR (otherK (K := K) hu) (pe_ix (ixK (K := K)) (pv 2) pe_int (fun _ _ => rfl)) pe_str (nomark _)) (pw_or1 (pt_not (pt_val (pe_cal c_plain_numbers hr (by omega) (fun σ => L2N.passAt (L2N.takes_of rfl rfl rfl rfl) σ) (pa_cons (pe_slice (slK (K := K)) (pv 2) (po_some pe_int) po_none) pa_nil))))))))) (pss_one (L2N.ps_raise rfl (L2N.takes_of rfl rfl rfl rfl) (pmk_errI T.e_BadText c_BadText hr (by decide) T.g_BadText (pa_cons pe_int pa_nil)))) pss_nil)
        (pss_cons (ps_set (i := 3) nd rfl (Or.inl rfl) (pe_lst pa_nil))
        (pss_cons (ps_for (passes_of rfl) rfl (pi_range2 (by rfl) T.f_range (pa_cons pe_int (pa_cons (pe_callB (lenK (K := K)) (by rfl) T.f_len boot_len (pa_cons (pv 1) pa_nil)) pa_nil))) (pg_name (i := 4) nd rfl (Or.inl rfl)) (pss_cons (ps_set (i := 5) nd rfl (Or.inl rfl) (pe_cal c_row_from hr (by omega) (fun σ => L2N.passAt (L2N.takes_of rfl rfl rfl rfl) σ) (pa_cons (pe_ix (ixK (K := K)) (pv 1) (pv 4) (fun _ _ => rfl)) pa_nil)))
        (pss_cons (ps_if (pt_cmpR op_isN1 (pv 5) pe_non (nomark _)) (pss_one (L2N.ps_raise rfl (L2N.takes_of rfl rfl rfl rfl) (pmk_errI T.e_BadText c_BadText hr (by decide) T.g_BadText (pa_cons (pe_op (plusK (K := K)) (pv 4) pe_int) pa_nil)))) pss_nil)
        (pss_one (ps_expr (peBM (K := K) (pe_bm PySem.F.plainAttrs_list PySem.F.slot_list_append PySem.F.type_list_append mt_append (pv 3) (pa_cons (pv 5) pa_nil))))))))
        (pss_cons (ps_expr (pe_cal c_bound_numbers hr (by omega) (fun σ => L2N.passAt (L2N.takes_of rfl rfl rfl rfl) σ) (pa_cons (pv 1) pa_nil)))
        (pss_cons (ps_expr (pe_cal c_bound_ways hr (by omega) (fun σ => L2N.passAt (L2N.takes_of rfl rfl rfl rfl) σ) (pa_cons (pv 3) pa_nil)))
        (pss_one (ps_ret (pe_mkGK (K := K) T.mk_ReadCode T.g_ReadCode c_ReadCode_init hr (by omega) (pa_cons (pv 3) (pa_cons (pe_ix (ixK (K := K)) (pv 2) pe_int (fun _ _ => rfl)) (pa_cons (pe_ix (ixK (K := K)) (pv 2) pe_int (fun _ _ => rfl)) pa_nil)))))))))))))), ?_⟩
  walk_at "st"
  refine ⟨x, rfl, hl, fun q H1 hq e1 h1 => ?_⟩
  rw [hsp] at h1
  walk_at "st"
  refine r_lenL (sqL h1) (n := (ls.length : Nat)) (by rw [List.length_map]) ?_
  walk_at "st"
  unfold codeF at k
  refine ⟨"paper", 4000, _, rfl, by simp [kv_LIMITS], fun c d H2 hd e2 h2 => ?_, fun c => ?_⟩
  · rw [if_pos (by omega)] at k
    exact k d H2 (e1.none hd) (e1.trans e2) h2
  rw [if_neg (by omega)] at k
  walk_at "st"
  refine r_atL (sqL h1) (atI_nat (j := 0) (strs_at l0)) ?_
  walk_at "st"
  have hl0 := hls _ (getD_memS l0)
  have bad0 : headL (ls.getD 0 e0) = none → ∀ H', Ext H H' → Bad1 K E H' "BadText" "line" (.int 1) := fun hn H' e => by
    rw [hn] at k
    exact Bad1.ext k e
  refine ⟨_, rfl, Nat.le_trans hl0 (by decide), fun ws hw qh H2 hqh e2 h2 => ?_, fun hn H2 e2 => ?_⟩
  rotate_left
  · walk_at "st"
    have hb := bad0 (by unfold headL; rw [show partsF (ls.getD 0 e0) = none from hn]; rfl) H2 (e1.trans e2)
    refine ite_d (fun _ => ?_) (fun n => absurd rfl n)
    walk_at "st"
    exact r_mk1 hb
  have hw0 : headL (ls.getD 0 e0) = headF ws := by unfold headL; rw [show partsF (ls.getD 0 e0) = some ws from hw]; rfl
  rw [hw0] at k bad0
  have e12 := e1.trans e2
  have lw := partsF_ne hw
  walk_at "st"
  refine ite_d (fun z => nomatch z) (fun _ => ?_)
  walk_at "st"
  refine r_lenL (sqL h2) (n := (ws.length : Nat)) (by rw [List.length_map]) ?_
  walk_at "st"
  by_cases c3 : ws.length = 3
  rotate_left
  · rw [decide_eq_false (show ¬ V.int (ws.length : Nat) = V.int 3 from fun z => c3 (by have := V.int.inj z; omega))]
    walk_at "st"
    exact r_mk1 (bad0 (by unfold headF; rw [if_neg (fun z => c3 z.1)]) H2 e12)
  rw [decide_eq_true (show V.int (ws.length : Nat) = V.int 3 by rw [c3]; rfl)]
  walk_at "st"
  refine r_atL (sqL h2) (atI_nat (j := 0) (wv_at lw)) ?_
  refine r_otherS (wv_scal _ _) ?_
  rw [wv_str sg_code]
  walk_at "st"
  by_cases c4 : ws.getD 0 e0 = "code"
  rotate_left
  · rw [decide_eq_false c4]
    walk_at "st"
    exact r_mk1 (bad0 (by unfold headF; rw [if_neg (fun z => c4 z.2.1)]) H2 e12)
  rw [decide_eq_true c4]
  walk_at "st"
  refine r_slL (sqL h2) (fun u H3 hu3 e3 h3 => ?_)
  rw [show cutV (ws.map wV) (some 1) none = (ws.drop 1).map wV by rw [show (1 : Int) = ((1 : Nat) : Int) from rfl, cut_from, List.map_drop]] at h3
  have e13 := e12.trans e3
  walk_at "st"
  refine ⟨u, ws.drop 1, rfl, sqL h3, ?_⟩
  walk_at "st"
  cases c5 : (ws.drop 1).all plainB with
  | false =>
    walk_at "st"
    exact r_mk1 (bad0 (by unfold headF; rw [if_neg (fun z => by rw [c5] at z; exact nomatch z.2.2)]) H3 e13)
  | true =>
    obtain ⟨n1, n2, s1, s2⟩ : ∃ n1 n2, sgnO (ws.getD 1 e0) = some n1 ∧ sgnO (ws.getD 2 e0) = some n2 := by
      have pl : ∀ i, 1 ≤ i → i < 3 → ∃ n, sgnO (ws.getD i e0) = some n := fun i h1 h2 => by
        have hm : ws.getD i e0 ∈ ws.drop 1 := by
          rw [List.getD_eq_getElem?_getD, List.getElem?_eq_getElem (by omega)]
          refine List.mem_iff_getElem.mpr ⟨i - 1, by rw [List.length_drop]; omega, ?_⟩
          rw [List.getElem_drop]
          show _ = ws[i]
          congr 1
          omega
        have := List.all_eq_true.mp c5 _ hm
        unfold plainB at this
        split at this
        · rename_i n hn; exact ⟨n, hn⟩
        · cases this
      obtain ⟨a, ha⟩ := pl 1 (by omega) (by omega)
      obtain ⟨b, hb⟩ := pl 2 (by omega) (by omega)
      exact ⟨a, b, ha, hb⟩
    have hF : headF ws = some (n1, n2) := by
      unfold headF
      rw [if_pos ⟨c3, c4, c5⟩, s1, s2]
      rfl
    rw [hF] at k
    clear bad0 hw0
    have k : OutK K H Q E (if rowsB ls = true then (if ls.any bigL = true then .many "number" else if (rowsO ls).any manyB = true then .many "ways" else .ok (rowsO ls) n1 n2) else .bad (1 + (ls.drop 1).findIdx fun x => (rowL x).isNone)) := k
    walk_at "st"
    intro R H4 hR e4 h4
    have e14 := e13.trans e4
    have q4 := e4 _ _ (e3 _ _ (e2 _ _ h1))
    have p4 := e4 _ _ (e3 _ _ h2)
    walk_at "st"
    refine r_lenL (sqL q4) (n := (ls.length : Nat)) (by rw [List.length_map]) ?_
    walk_at "st"
    refine forW_range (fun i σ' H' => ∃ v4 v5 : Option V, σ' = [some (.str x), some (.ref q), some (.ref qh), some (.ref R), v4, v5] ∧ (∀ b o, b ≠ R → H4 b = some o → H' b = some o) ∧ Grow (fun a => H a = none ∧ a ≠ R) H' R (((ls.drop 1).take i).map fun x => (rowL x).getD .none) ∧ ((ls.drop 1).take i).all (fun x => (rowL x).isSome) = true) ⟨none, none, rfl, (fun b o _ h => h), .start h4, rfl⟩ ?_ ?_
    · rintro i σ' H5 hi ⟨v4, v5, rfl, u5, g5, a5⟩
      have ii : i + 1 < ls.length := by omega
      have qR : q ≠ R := ne_of_none (e3 _ _ (e2 _ _ h1)) hR
      have q5 := u5 _ _ qR q4
      walk_at "st"
      rw [show (1 : Int) + (i : Int) = ((i + 1 : Nat) : Int) by omega]
      refine r_atL (sqL q5) (atI_nat (strs_at ii)) ?_
      have gi : (ls.drop 1)[i]? = some (ls.getD (i + 1) e0) := by
        rw [List.getElem?_drop, List.getD_eq_getElem?_getD, Nat.add_comm 1 i, List.getElem?_eq_getElem ii]
        rfl
      have hx := hls _ (getD_memS ii)
      generalize ls.getD (i + 1) (Str.ofString "") = ln at gi hx
      have il : i < (ls.drop 1).length := (List.getElem?_eq_some_iff.mp gi).1
      have e05 : Ext H H5 := fun b o h => u5 _ _ (ne_of_none (e13 _ _ h) hR) (e14 _ _ h)
      walk_at "st"
      refine ⟨ln, rfl, hx, fun y H6 e6 oy => ?_⟩
      have e06 := e05.trans e6
      walk_at "st"
      have tk : (ls.drop 1).take (i + 1) = (ls.drop 1).take i ++ [ln] := by rw [List.take_succ, gi]; rfl
      cases hw : rowL ln with
      | none =>
        rw [hw] at oy
        have oy : y = .non := oy
        subst oy
        refine ite_d (fun _ => ?_) (fun n => absurd rfl n)
        walk_at "st"
        have nb : rowsB ls = false := all_no gi (by rw [hw]; rfl)
        rw [if_neg (by rw [nb]; exact Bool.noConfusion)] at k
        have fi : (ls.drop 1).findIdx (fun x => (rowL x).isNone) = i := by
          rw [List.findIdx_eq il]
          rw [List.getElem?_eq_getElem il] at gi
          refine ⟨by rw [Option.some.inj gi, hw]; rfl, fun j hj => ?_⟩
          have := List.all_eq_true.mp a5 ((ls.drop 1)[j]'(by omega)) (List.mem_iff_getElem.mpr ⟨j, by rw [List.length_take]; omega, by rw [List.getElem_take]⟩)
          cases hz : rowL ((ls.drop 1)[j]'(by omega)) with
          | none => rw [hz] at this; cases this
          | some d => rfl
        rw [fi] at k
        have k : Bad1 K E H "BadText" "line" (.int ((1 + i + 1 : Nat) : Int)) := k
        rw [show ((1 + i + 1 : Nat) : Int) = ((i + 1 : Nat) : Int) + 1 by omega] at k
        exact r_mk1 (k.ext e06)
      | some d =>
        rw [hw] at oy
        have oy : Nw (fun a => H5 a = none) H6 y d := oy
        have yn : y ≠ .non := fun z => by
          subst z
          have : d = .none := by cases oy; rfl
          subst this
          unfold rowL at hw
          cases hp : partsF ln with
          | none => rw [hp] at hw; cases hw
          | some wz =>
            rw [hp] at hw
            have hw : rowF wz = some .none := hw
            unfold rowF at hw
            split at hw
            · split at hw <;> cases hw
            · split at hw
              · split at hw
                · cases hw
                · split at hw <;> cases hw
              · cases hw
        refine ite_d (fun z => absurd z yn) (fun _ => ?_)
        walk_at "st"
        have g6 := g5.ext e6
        refine ⟨g6.ty, ?_⟩
        walk_at "st"
        obtain ⟨v5', hv5, _⟩ := g5.ex
        refine g6.app (d := d) (by rw [List.length_map, List.length_take]; omega) (fun a s => s.2) (oy.keep (fun a o s z => ⟨z, e05.none s, (ne_of_none hv5 s).symm⟩) _) (fun H7 n7 g7 => ?_)
        refine ⟨_, _, rfl, fun b o bR h => (n7 _ bR).trans (e6 _ _ (u5 _ _ bR h)), ?_, ?_⟩
        · rw [tk, List.map_append]
          show Grow _ _ _ (_ ++ [(rowL ln).getD .none])
          rw [hw]
          exact g7
        · exact all_take a5 gi (by rw [hw]; rfl)
    · rintro σ' H5 ⟨v4, v5, rfl, u5, g5, a5⟩
      have ld : (ls.drop 1).length = ls.length - 1 := List.length_drop ..
      rw [show ((ls.length : Nat) : Int) - 1 = ((ls.length - 1 : Nat) : Int) by omega, Int.toNat_natCast, ← ld, List.take_length] at g5 a5
      have rb : rowsB ls = true := a5
      rw [if_pos rb] at k
      have e05 : Ext H H5 := fun b o h => u5 _ _ (ne_of_none (e13 _ _ h) hR) (e14 _ _ h)
      have qR : q ≠ R := ne_of_none (e3 _ _ (e2 _ _ h1)) hR
      have pR : qh ≠ R := ne_of_none (e3 _ _ h2) hR
      have q5 := u5 _ _ qR q4
      have p5 := u5 _ _ pR p4
      have okl : ∀ x ∈ ls, x.length ≤ 50000 ∧ (partsF x).isSome = true := fun x hx => by
        refine ⟨hls x hx, ?_⟩
        obtain ⟨j, hj, rfl⟩ := List.mem_iff_getElem.mp hx
        cases j with
        | zero =>
          have : ls[0] = ls.getD 0 e0 := by rw [List.getD_eq_getElem?_getD, List.getElem?_eq_getElem l0]; rfl
          rw [this, show partsF (ls.getD 0 e0) = some ws from hw]
          rfl
        | succ j =>
          have hm : ls[j + 1] ∈ ls.drop 1 := List.mem_iff_getElem.mpr ⟨j, by rw [List.length_drop]; omega, by rw [List.getElem_drop]; congr 1; omega⟩
          have := List.all_eq_true.mp a5 _ hm
          cases hp : partsF ls[j + 1] with
          | none =>
            unfold rowL at this
            rw [hp] at this
            cases this
          | some w => rfl
      walk_at "st"
      refine ⟨q, ls, rfl, sqL q5, okl, ?_⟩
      cases cb : ls.any bigL with
      | true =>
        rw [cb, if_pos rfl] at k
        rw [if_pos rfl]
        exact Bad1.ext k e05
      | false =>
        rw [cb, if_neg Bool.false_ne_true] at k
        rw [if_neg Bool.false_ne_true]
        intro H6 e6
        walk_at "st"
        have g6 := g5.ext e6
        have e06 := e05.trans e6
        obtain ⟨vs, hv, hvs⟩ := g6.ex
        have nwR : Nw (fun a => H a = none) H6 (.ref R) (.list (rowsO ls)) := .lst (e13.none hR) hv (hvs.keep (fun a o s z => ⟨z, s.1⟩) _)
        refine ⟨_, _, rfl, nwR.dp _, ?_⟩
        cases cm : (rowsO ls).any manyB with
        | true =>
          rw [cm, if_pos rfl] at k
          rw [if_pos rfl]
          exact Bad1.ext k e06
        | false =>
          rw [cm, if_neg Bool.false_ne_true] at k
          rw [if_neg Bool.false_ne_true]
          intro H7 e7
          have e07 := e06.trans e7
          walk_at "st"
          have p7 := e7 _ _ (e6 _ _ p5)
          refine r_atL (sqL p7) (atI_nat (j := 1) (wv_at (by omega))) ?_
          walk_at "st"
          refine r_atL (sqL p7) (atI_nat (j := 2) (wv_at (by omega))) ?_
          rw [show wV (ws.getD 1 e0) = .int n1 by unfold wV; rw [s1], show wV (ws.getD 2 e0) = .int n2 by unfold wV; rw [s2]]
          refine r_mk (fun o dx H8 ho hdx e8 h8 => ?_)
          have nw8 := nw_ext nwR (e7.trans e8)
          have sm : smallD 7 (.list (rowsO ls)) := small_list (by unfold rowsO; rw [List.length_map, ld]; omega) fun e he => by
            unfold rowsO at he
            obtain ⟨ln, hln, rfl⟩ := List.mem_map.mp he
            have := List.all_eq_true.mp a5 ln hln
            obtain ⟨d, hd⟩ := Option.isSome_iff_exists.mp this
            rw [hd]
            exact small_rowL hd (hls _ (List.mem_of_mem_drop hln))
          refine ⟨o, dx, .ref R, rowsO ls, n1, n2, rfl, h8, nw8.dp _, sm, fun H9 u9 c9 => ⟨rfl, ?_⟩⟩
          refine k o H9 (fun b o' h => u9 b o' (ne_of_none (e07 _ _ h) ho) (e8 _ _ (e07 _ _ h))) (e07.none ho) ?_ sm
          obtain ⟨dx', y', z1, z2⟩ := c9.ex
          exact ⟨dx', y', z1, z2.keep (fun a o s z => ⟨z, (e07.trans e8).none s.2⟩) _⟩

end
end K35
set_option maxRecDepth 100000
set_option maxHeartbeats 4000000
namespace K35
open PySem PySem.Spec PyProof.Rows L2 L3
local macro_rules | `(tactic| walk_at "s1") => `(tactic| first
  | with_reducible refine r_seq ?_
  | with_reducible refine r_asgN ?_
  | with_reducible refine r_ret ?_
  | with_reducible refine r_next ?_
  | ((with_reducible refine' r_var ?hv ?_); (case hv => exact rfl))
  | with_reducible refine r_c ?_
  | with_reducible refine r_op ?_
  | with_reducible refine r_cons ?_
  | with_reducible refine r_nil ?_
  | with_reducible refine r_plusI ?_
  | with_reducible refine r_I0 ?_
  | with_reducible refine r_test ?_
  | with_reducible refine r_bl ?_
  | with_reducible refine r_ifS ?_
  | with_reducible refine r_cb ?_
  | with_reducible refine r_callS ?_
  | with_reducible refine r_and ?_
  | with_reducible refine r_or ?_
  | with_reducible refine r_not ?_
  | with_reducible refine r_B ?_
  | ((with_reducible refine' r_aug ?hv ?_); (case hv => exact rfl))
  | with_reducible refine r_augS ?_
  | with_reducible refine r_ipI ?_
  | with_reducible refine r_asg ?_
  | with_reducible refine r_sub ?_
  | with_reducible refine r_brk ?_
  | with_reducible refine r_isN1 ?_
  | with_reducible refine r_notN1 ?_
  | with_reducible refine r_intI ?_
  | with_reducible refine r_abs ?_
  | with_reducible refine r_min ?_
  | with_reducible refine r_max ?_
  | ((with_reducible refine' r_mod ?hz ?_); (case hz => omega))
  | ((with_reducible refine' r_pow ?hz ?_); (case hz => exact ⟨by decide, by decide, by decide⟩))
  | ((with_reducible refine' r_rg1 ?hz ?_); (case hz => omega))
  | ((with_reducible refine' r_rg2 ?hz ?_); (case hz => omega))
  | ((with_reducible refine' r_newL ?hz ?_); (case hz => exact Nat.le_of_ble_eq_true rfl))
  | ((with_reducible refine' r_newT ?hz ?_); (case hz => exact Nat.le_of_ble_eq_true rfl))
  | with_reducible refine r_for ?_
  | with_reducible refine r_lc ?_
  | with_reducible refine r_iR1 ?_
  | with_reducible refine r_iR2 ?_
  | with_reducible refine r_iL ?_
  | with_reducible refine r_iT ?_
  | with_reducible refine r_gname ?_
  | with_reducible refine r_gcons ?_
  | with_reducible refine r_gnil ?_
  | with_reducible refine r_yes ?_
  | with_reducible refine r_mkO ?_
  | with_reducible refine r_cont ?_
  | with_reducible refine r_drop ?_
  | with_reducible refine r_retN ?_
  | with_reducible refine r_ifC ?_
  | with_reducible refine r_ifI ?_
  | with_reducible refine r_if ?_
  | with_reducible refine r_un ?_
  | with_reducible refine r_neg ?_
  | with_reducible refine r_andV ?_
  | with_reducible refine r_orV ?_
  | with_reducible refine r_notV ?_
  | with_reducible refine r_tup ?_
  | with_reducible refine r_lst ?_
  | with_reducible refine r_bm ?_
  | with_reducible refine r_bm0 ?_
  | with_reducible refine r_sl ?_
  | with_reducible refine r_chain ?_
  | with_reducible refine r_listDn ?_
  | with_reducible refine r_listRg2 ?_
  | with_reducible refine r_listRg1 ?_
  | with_reducible refine r_revL ?_
  | with_reducible refine r_noPart ?_
  | with_reducible refine r_meth ?_
  | with_reducible refine r_methE ?_
  | with_reducible refine r_js ?_
  | with_reducible refine r_jsC ?_
  | with_reducible refine r_jsN ?_
  | with_reducible refine r_fmt ?_
  | with_reducible refine r_fld ?_
  | with_reducible refine r_sfld ?_
  | with_reducible refine r_make ?_
  | with_reducible refine r_m1 ?_
  | with_reducible refine r_m1s ?_
  | with_reducible refine r_iS ?_
  | with_reducible refine r_iE ?_
  | with_reducible refine r_si ?_
  | with_reducible refine r_strS ?_
  | with_reducible refine r_dgt ?_
  | with_reducible refine r_din ?_
  | with_reducible refine r_dnin ?_
  | with_reducible refine r_dput ?_
  | with_reducible refine r_dnew ?_
  | with_reducible refine r_disp1 ?_
  | with_reducible refine r_lenSet ?_
  | with_reducible refine r_get2 ?_
  | with_reducible refine r_get1 ?_
  | with_reducible refine r_daug ?_
  | with_reducible refine r_iR3 ?_
  | with_reducible refine r_prC ?_
  | with_reducible refine r_prN ?_
  | with_reducible refine r_part ?_
  | with_reducible refine r_int ?_
  | ((with_reducible refine' r_sameS ?hs ?_); (case hs => exact rfl))
  | ((with_reducible refine' r_otherS ?hs ?_); (case hs => exact rfl))
  | with_reducible refine ite_t ?_
  | with_reducible refine ite_f ?_
  | with_reducible refine ite_nt ?_
  | with_reducible refine ite_nf ?_)
local macro_rules | `(tactic| walk_at "st") => `(tactic| repeat (walk_at "s1"))
local macro_rules | `(tactic| walk_at "su") => `(tactic| first
  | with_reducible refine r_seq ?_
  | with_reducible refine r_asgN ?_
  | with_reducible refine r_ret ?_
  | with_reducible refine r_next ?_
  | ((with_reducible refine' r_var ?hv ?_); (case hv => exact rfl))
  | with_reducible refine r_c ?_
  | with_reducible refine r_op ?_
  | with_reducible refine r_cons ?_
  | with_reducible refine r_nil ?_
  | with_reducible refine r_plusI ?_
  | with_reducible refine r_I0 ?_
  | with_reducible refine r_test ?_
  | with_reducible refine r_bl ?_
  | with_reducible refine r_cb ?_
  | with_reducible refine r_callS ?_
  | with_reducible refine r_and ?_
  | with_reducible refine r_or ?_
  | with_reducible refine r_not ?_
  | with_reducible refine r_B ?_
  | ((with_reducible refine' r_aug ?hv ?_); (case hv => exact rfl))
  | with_reducible refine r_augS ?_
  | with_reducible refine r_ipI ?_
  | with_reducible refine r_asg ?_
  | with_reducible refine r_sub ?_
  | with_reducible refine r_brk ?_
  | with_reducible refine r_isN1 ?_
  | with_reducible refine r_notN1 ?_
  | with_reducible refine r_intI ?_
  | with_reducible refine r_abs ?_
  | with_reducible refine r_min ?_
  | with_reducible refine r_max ?_
  | ((with_reducible refine' r_mod ?hz ?_); (case hz => omega))
  | ((with_reducible refine' r_pow ?hz ?_); (case hz => exact ⟨by decide, by decide, by decide⟩))
  | ((with_reducible refine' r_rg1 ?hz ?_); (case hz => omega))
  | ((with_reducible refine' r_rg2 ?hz ?_); (case hz => omega))
  | ((with_reducible refine' r_newL ?hz ?_); (case hz => exact Nat.le_of_ble_eq_true rfl))
  | ((with_reducible refine' r_newT ?hz ?_); (case hz => exact Nat.le_of_ble_eq_true rfl))
  | with_reducible refine r_for ?_
  | with_reducible refine r_lc ?_
  | with_reducible refine r_iR1 ?_
  | with_reducible refine r_iR2 ?_
  | with_reducible refine r_iL ?_
  | with_reducible refine r_iT ?_
  | with_reducible refine r_gname ?_
  | with_reducible refine r_gcons ?_
  | with_reducible refine r_gnil ?_
  | with_reducible refine r_yes ?_
  | with_reducible refine r_mkO ?_
  | with_reducible refine r_cont ?_
  | with_reducible refine r_drop ?_
  | with_reducible refine r_retN ?_
  | with_reducible refine r_ifC ?_
  | with_reducible refine r_ifI ?_
  | with_reducible refine r_if ?_
  | with_reducible refine r_un ?_
  | with_reducible refine r_neg ?_
  | with_reducible refine r_andV ?_
  | with_reducible refine r_orV ?_
  | with_reducible refine r_notV ?_
  | with_reducible refine r_tup ?_
  | with_reducible refine r_lst ?_
  | with_reducible refine r_bm ?_
  | with_reducible refine r_bm0 ?_
  | with_reducible refine r_sl ?_
  | with_reducible refine r_chain ?_
  | with_reducible refine r_listDn ?_
  | with_reducible refine r_listRg2 ?_
  | with_reducible refine r_listRg1 ?_
  | with_reducible refine r_revL ?_
  | with_reducible refine r_noPart ?_
  | with_reducible refine r_meth ?_
  | with_reducible refine r_methE ?_
  | with_reducible refine r_js ?_
  | with_reducible refine r_jsC ?_
  | with_reducible refine r_jsN ?_
  | with_reducible refine r_fmt ?_
  | with_reducible refine r_fld ?_
  | with_reducible refine r_sfld ?_
  | with_reducible refine r_make ?_
  | with_reducible refine r_m1 ?_
  | with_reducible refine r_m1s ?_
  | with_reducible refine r_iS ?_
  | with_reducible refine r_iE ?_
  | with_reducible refine r_si ?_
  | with_reducible refine r_strS ?_
  | with_reducible refine r_dgt ?_
  | with_reducible refine r_din ?_
  | with_reducible refine r_dnin ?_
  | with_reducible refine r_dput ?_
  | with_reducible refine r_dnew ?_
  | with_reducible refine r_disp1 ?_
  | with_reducible refine r_lenSet ?_
  | with_reducible refine r_get2 ?_
  | with_reducible refine r_get1 ?_
  | with_reducible refine r_daug ?_
  | with_reducible refine r_iR3 ?_
  | with_reducible refine r_prC ?_
  | with_reducible refine r_prN ?_
  | with_reducible refine r_part ?_
  | with_reducible refine r_int ?_
  | ((with_reducible refine' r_sameS ?hs ?_); (case hs => exact rfl))
  | ((with_reducible refine' r_otherS ?hs ?_); (case hs => exact rfl))
  | with_reducible refine ite_t ?_
  | with_reducible refine ite_f ?_
  | with_reducible refine ite_nt ?_
  | with_reducible refine ite_nf ?_)
local macro_rules | `(tactic| walk_at "sv") => `(tactic| repeat (walk_at "su"))

section
variable {P : Program} {w : World} {K : PySem.W.Frag} {mg : Str → Option Value} {base : Heap}

/-! ### lines and words -/
theorem app_assoc (a b c : Str) : a ++ b ++ c = a ++ (b ++ c) := TL.ext_tl (by rw [TL.tl_append, TL.tl_append, TL.tl_append, TL.tl_append, List.append_assoc])
theorem len_app (a b : Str) : (a ++ b).length = a.length + b.length := by rw [TL.len_tl, TL.len_tl, TL.len_tl, TL.tl_append, List.length_append]
theorem jn_cons {a : Str} {l : List Str} (h : l ≠ []) : jn (a :: l) = a ++ (sp1 ++ jn l) := by
  unfold jn
  rw [TL.join_eq, TL.join_eq]
  cases l with
  | nil => exact absurd rfl h
  | cons b l => exact app_assoc _ _ _
theorem jn_one (a : Str) : jn [a] = a := by
  unfold jn
  rw [TL.join_eq]
  rfl
theorem jn_len : ∀ l : List Str, (jn l).length ≤ (l.map (·.length)).sum + l.length
  | [] => by unfold jn; rw [TL.join_eq]; exact Nat.le_refl _
  | [a] => by rw [jn_one]; show a.length ≤ (a.length + 0) + 1; omega
  | a :: b :: l => by
    rw [jn_cons (List.cons_ne_nil _ _), len_app, len_app, List.map_cons, List.sum_cons, List.length_cons]
    have := jn_len (b :: l)
    have e : sp1.length = 1 := by decide
    omega
theorem sum_len {l : List Str} {m : Nat} (h : ∀ s ∈ l, s.length ≤ m) : (l.map (·.length)).sum ≤ m * l.length := by
  induction l with
  | nil => exact Nat.zero_le _
  | cons a l ih =>
    rw [List.map_cons, List.sum_cons, List.length_cons, Nat.mul_succ]
    have := ih fun s hs => h s (List.mem_cons_of_mem _ hs)
    have := h a List.mem_cons_self
    omega
theorem jn_le {l : List Str} {m n : Nat} (h : ∀ s ∈ l, s.length ≤ m) (hn : l.length ≤ n) : (jn l).length ≤ (m + 1) * n := by
  have h1 := jn_len l
  have h2 := sum_len h
  have : m * l.length ≤ m * n := Nat.mul_le_mul_left _ hn
  rw [Nat.succ_mul]
  omega
def numS (n : Nat) : Str := Str.ofString (toString ((n : Nat) : Int))
theorem jn_tl (l : List Str) : TL.tl (jn l) = TL.joinL (TL.tl sp1) (l.map TL.tl) := by
  unfold jn
  rw [TL.join_eq, TL.tl_join]
theorem numL_head : ∀ (n : Nat), 0 < n → (TL.numL n).head? ≠ some 48 := by
  intro n
  induction n using Nat.strongRecOn with
  | ind n ih =>
    intro h
    by_cases c : n < 10
    · rw [TL.numL_lt c]
      show some (48 + n) ≠ some 48
      intro e
      have := Option.some.inj e
      omega
    · rw [TL.numL_step (by omega)]
      have := ih (n / 10) (by omega) (by omega)
      have ne := TL.numL_ne (n / 10)
      cases hq : TL.numL (n / 10) with
      | nil => exact absurd hq ne
      | cons a l => rw [hq] at this; exact this
theorem numS_tl (n : Nat) : (numS n).cps.toList = TL.numL n := TL.tl_num n
theorem numL_dig (n : Nat) : (TL.numL n).all isDig = true := by
  rw [List.all_eq_true]
  intro c hc
  have := TL.numL_digits n c hc
  unfold isDig
  rw [Bool.and_eq_true, decide_eq_true_iff, decide_eq_true_iff]
  exact this
theorem numO_numS {n : Nat} (h : n < 10 ^ 31) : numO (numS n) = some ((n : Nat) : Int) := by
  unfold numO
  have e := numS_tl n
  have ne : numS n ≠ Str.ofString "" := fun z => by
    rw [z] at e
    exact TL.numL_ne n e.symm
  have hl : (numS n).length ≤ 31 := by rw [TL.len_tl]; show (numS n).cps.toList.length ≤ 31; rw [e]; exact TL.numL_len (by decide) h
  rw [if_neg ne, e, if_neg (by rw [numL_dig]; exact Bool.noConfusion), if_neg, if_neg (by omega), TL.numL_val]
  rintro ⟨h1, h2⟩
  by_cases c : n = 0
  · subst c
    rw [TL.len_tl] at h1
    have h1 : 1 < (numS 0).cps.toList.length := h1
    rw [e, TL.numL_lt (by decide)] at h1
    exact absurd h1 (by decide)
  · refine numL_head n (by omega) ?_
    rw [List.head?_eq_getElem?]
    exact h2
structure WOk (w : Str) : Prop where
  ne : w ≠ Str.ofString ""
  cs : ∀ c ∈ w.cps.toList, 33 ≤ c ∧ c ≤ 126
  len : w.length ≤ 40
def wokB (w : Str) : Bool := !decide (w = Str.ofString "") && (w.cps.toList.all (fun c => decide (33 ≤ c) && decide (c ≤ 126)) && decide (w.length ≤ 40))
theorem wok_of {w : Str} (h : wokB w = true) : WOk w := by
  unfold wokB at h
  rw [Bool.and_eq_true, Bool.and_eq_true, Bool.not_eq_true', decide_eq_false_iff_not, decide_eq_true_iff] at h
  refine ⟨h.1, fun c hc => ?_, h.2.2⟩
  have := List.all_eq_true.mp h.2.1 c hc
  rw [Bool.and_eq_true, decide_eq_true_iff, decide_eq_true_iff] at this
  exact this
theorem mem_joinL {S : List Nat} : ∀ {l : List (List Nat)} {c : Nat}, c ∈ TL.joinL S l → c ∈ S ∨ ∃ p ∈ l, c ∈ p
  | [], c, h => nomatch h
  | [p], c, h => .inr ⟨p, List.mem_cons_self, h⟩
  | p :: q :: r, c, h => by
    rcases List.mem_append.mp h with h | h
    · exact .inr ⟨p, List.mem_cons_self, h⟩
    rcases List.mem_append.mp h with h | h
    · exact .inl h
    rcases mem_joinL h with h | ⟨p', h1, h2⟩
    · exact .inl h
    · exact .inr ⟨p', List.mem_cons_of_mem _ h1, h2⟩
structure RowOk (ws : List Str) : Prop where
  ne : ws ≠ []
  len : ws.length ≤ 40
  w : ∀ x ∈ ws, WOk x
theorem jn_mem {ws : List Str} {c : Nat} (h : ∀ x ∈ ws, WOk x) (hc : c ∈ (jn ws).cps.toList) : 32 ≤ c ∧ c ≤ 126 := by
  have hc : c ∈ TL.tl (jn ws) := hc
  rw [jn_tl, sp1_tl] at hc
  rcases mem_joinL hc with hc | ⟨p, hp, hc⟩
  · have : c = 32 := by simpa using hc
    omega
  · obtain ⟨x, hx, rfl⟩ := List.mem_map.mp hp
    have := (h x hx).cs c hc
    omega
theorem split_jn {ws : List Str} (h : RowOk ws) : Txt.split (jn ws) sp1 = ws :=
  TL.split_join sp1_tl (by decide +kernel) h.ne fun p hp hm => by
    have := (h.w p hp).cs 32 hm
    omega
theorem partsF_jn {ws : List Str} (h : RowOk ws) : partsF (jn ws) = some ws := by
  unfold partsF
  rw [split_jn h, if_pos]
  rw [Bool.and_eq_true, Bool.not_eq_true', decide_eq_false_iff_not]
  refine ⟨List.all_eq_true.mpr fun c hc => ?_, fun hm => (h.w _ hm).ne rfl⟩
  have := jn_mem h.w hc
  unfold okC
  rw [Bool.and_eq_true, decide_eq_true_iff, decide_eq_true_iff]
  exact this
theorem jn_row {ws : List Str} (h : RowOk ws) : (jn ws).length ≤ 2000 := by
  have := jn_le (l := ws) (m := 40) (n := 40) (fun s hs => (h.w s hs).len) h.len
  omega
theorem split_any {ws : List Str} (ne : ws ≠ []) (h : ∀ x ∈ ws, 32 ∉ x.cps.toList) : Txt.split (jn ws) sp1 = ws :=
  TL.split_join sp1_tl (by decide +kernel) ne fun p hp hm => h p hp hm
theorem wok_no32 {w : Str} (h : WOk w) : 32 ∉ w.cps.toList := fun hm => by
  have := h.cs 32 hm
  omega
theorem parts_empty {ws : List Str} (h : ∀ x ∈ ws, WOk x ∨ x = e0) (he : e0 ∈ ws) : partsF (jn ws) = none := by
  have sp := split_any (ws := ws) (fun z => by rw [z] at he; cases he) fun x hx => by
    rcases h x hx with h | h
    · exact wok_no32 h
    · rw [h]
      decide +kernel
  unfold partsF
  rw [sp, if_neg]
  rw [Bool.and_eq_true]
  rintro ⟨_, h2⟩
  rw [decide_eq_true (show (Str.ofString "") ∈ ws from he)] at h2
  cases h2
theorem mem_joinL' {S : List Nat} : ∀ {l : List (List Nat)} {p : List Nat} {c : Nat}, p ∈ l → c ∈ p → c ∈ TL.joinL S l
  | [], _, _, h, _ => nomatch h
  | [a], p, c, h, hc => by
    rw [List.mem_singleton.mp h] at hc
    simpa [TL.joinL] using hc
  | a :: b :: l, p, c, h, hc => by
    rcases List.mem_cons.mp h with rfl | h
    · simp [TL.joinL, hc]
    · have := mem_joinL' (S := S) (l := b :: l) h hc
      show c ∈ a ++ (S ++ TL.joinL S (b :: l))
      exact List.mem_append_right _ (List.mem_append_right _ this)
theorem parts_sign {ws : List Str} {w : Str} {c : Nat} (h : w ∈ ws) (hc : c ∈ w.cps.toList) (ho : okC c = false) : partsF (jn ws) = none := by
  unfold partsF
  rw [if_neg]
  rw [Bool.and_eq_true]
  rintro ⟨h1, _⟩
  have hm : c ∈ (jn ws).cps.toList := by
    show c ∈ TL.tl (jn ws)
    rw [jn_tl]
    exact mem_joinL' (List.mem_map.mpr ⟨w, h, rfl⟩) hc
  have := List.all_eq_true.mp h1 c hm
  rw [ho] at this
  cases this
theorem numO_first {w : Str} {c : Nat} {r : List Nat} (e : w.cps.toList = c :: r) (hc : isDig c = false) : numO w = none := by
  unfold numO
  split
  · rfl
  · rw [if_pos]
    rw [e, List.all_cons, hc]
    rfl

/-! ### right rows, as words -/
def numZ (n : Int) : Str := Str.ofString (toString n)
theorem numZ_nat (n : Nat) : numZ (n : Nat) = numS n := rfl
theorem ofString_app (a b : String) : Str.ofString (a ++ b) = Str.ofString a ++ Str.ofString b := TL.ext_tl (by
  rw [TL.tl_append]
  show (Str.ofString (a ++ b)).cps.toList = (Str.ofString a).cps.toList ++ (Str.ofString b).cps.toList
  rw [Str.ofString_eq_toList, Str.ofString_eq_toList, Str.ofString_eq_toList]
  simp)
theorem numZ_neg {n : Int} (h : n < 0) : TL.tl (numZ n) = 45 :: TL.numL n.natAbs := by
  unfold numZ
  rw [PyProof.Rows.toString_neg h]
  have e : (0 - n) = ((n.natAbs : Nat) : Int) := by omega
  rw [e]
  have e2 : Str.ofString ("-" ++ toString ((n.natAbs : Nat) : Int)) = Str.ofString "-" ++ Str.ofString (toString ((n.natAbs : Nat) : Int)) := ofString_app _ _
  rw [e2, TL.tl_append, TL.tl_num]
  rfl
theorem S_of {x : Str} {l : List Nat} (h : TL.tl x = l) : x = SX.S l := TL.ext_tl h
theorem numO_numL {n : Nat} {x : Str} (h : TL.tl x = TL.numL n) (hn : n < 10 ^ 31) : numO x = some ((n : Nat) : Int) := by
  have : x = numS n := TL.ext_tl (h.trans (numS_tl n).symm)
  rw [this]
  exact numO_numS hn
theorem neg1_iff {x : Str} : neg1 x = true ↔ (TL.tl x).take 1 = [45] := by
  unfold neg1
  rw [decide_eq_true_iff]
  constructor
  · intro h
    rw [← tl_to1, h]
    rfl
  · intro h
    exact TL.ext_tl ((tl_to1 x).trans h)
theorem sgn_numZ {n : Int} (h : n.natAbs < 10 ^ 31) : sgnO (numZ n) = some n := by
  unfold sgnO
  by_cases c : n < 0
  · have e := numZ_neg c
    rw [if_pos (neg1_iff.mpr (by rw [e]; rfl))]
    have e2 : numO (Txt.slice (numZ n) (some 1) none) = some ((n.natAbs : Nat) : Int) := numO_numL (by rw [tl_from1, e]; rfl) h
    rw [e2]
    show (if ((n.natAbs : Nat) : Int) = 0 then none else some (-((n.natAbs : Nat) : Int))) = some n
    rw [if_neg (by omega)]
    congr 1
    omega
  · obtain ⟨m, rfl⟩ : ∃ m : Nat, n = (m : Int) := ⟨n.toNat, by omega⟩
    rw [numZ_nat, if_neg]
    · exact numO_numS (by omega)
    · rw [neg1_iff]
      have e : TL.tl (numS m) = TL.numL m := numS_tl m
      rw [e]
      intro z
      have hm : 45 ∈ TL.numL m := List.mem_of_mem_take (i := 1) (by rw [z]; simp)
      have := TL.numL_digits m 45 hm
      omega
def wz : PyData → Str
  | .str s => s
  | .int n => numZ n
  | _ => e0
inductive ScR : PyData → Prop
  | str (s : Str) : sgnO s = none → s ≠ "or" → WOk s → ScR (.str s)
  | int (n : Int) : n.natAbs ≤ 10 ^ 30 → ScR (.int n)
theorem le31 {n : Nat} (h : n ≤ 10 ^ 30) : n < 10 ^ 31 := Nat.lt_of_le_of_lt h (by decide)
theorem ScR.wd {d : PyData} (h : ScR d) : wD (wz d) = d := by
  cases h with
  | str s hs _ _ =>
    show wD s = _
    unfold wD
    rw [hs]
  | int n hn =>
    show wD (numZ n) = _
    unfold wD
    rw [sgn_numZ (le31 hn)]
theorem ScR.no_or {d : PyData} (h : ScR d) : wz d ≠ "or" := by
  cases h with
  | str s _ h _ => exact h
  | int n hn =>
    intro z
    have := sgn_numZ (le31 hn)
    rw [show numZ n = "or" from z, sg_or] at this
    cases this
theorem wok_numZ {n : Int} (hn : n.natAbs ≤ 10 ^ 30) : WOk (numZ n) := by
  have ll : (TL.numL n.natAbs).length ≤ 31 := TL.numL_len (by decide) (le31 hn)
  by_cases c : n < 0
  · have e := numZ_neg c
    refine ⟨fun z => ?_, fun k hk => ?_, ?_⟩
    · rw [z] at e
      cases e
    · have hk : k ∈ TL.tl (numZ n) := hk
      rw [e] at hk
      rcases List.mem_cons.mp hk with rfl | hk
      · decide
      · have := TL.numL_digits _ k hk
        omega
    · rw [TL.len_tl, e, List.length_cons]
      omega
  · obtain ⟨m, rfl⟩ : ∃ m : Nat, n = (m : Int) := ⟨n.toNat, by omega⟩
    have e : TL.tl (numS m) = TL.numL m := numS_tl m
    rw [numZ_nat]
    refine ⟨fun z => ?_, fun k hk => ?_, ?_⟩
    · rw [z] at e
      exact TL.numL_ne m e.symm
    · have hk : k ∈ TL.tl (numS m) := hk
      rw [e] at hk
      have := TL.numL_digits _ k hk
      omega
    · rw [TL.len_tl, e]
      have : (TL.numL m).length ≤ 31 := ll
      omega
theorem ScR.wok {d : PyData} (h : ScR d) : WOk (wz d) := by
  cases h with
  | str s _ _ h => exact h
  | int n hn => exact wok_numZ hn
theorem ScR.big {d : PyData} (h : ScR d) : bigN (wz d) = false := by
  cases h with
  | str s hs _ _ =>
    show bigN s = false
    unfold bigN
    rw [hs]
  | int n hn =>
    show bigN (numZ n) = false
    unfold bigN
    rw [sgn_numZ (le31 hn)]
    refine decide_eq_false ?_
    split <;> omega
/-- flat tuples of scalars -/
theorem chD_wz {ds : List PyData} (h : ∀ d ∈ ds, ScR d) : chD (ds.map wz) = .tuple ds := by
  unfold chD
  rw [List.map_map]
  congr 1
  conv => rhs; rw [← List.map_id ds]
  exact List.map_congr_left fun d hd => (h d hd).wd
inductive StepR : PyData → Prop
  | go (n : Int) : n.natAbs ≤ 10 ^ 30 → StepR (.tuple [.str "go", .int n])
  | sz (k : Str) (n s : Int) : k ∈ (["head", "tail", "here"] : List Str) → n.natAbs ≤ 10 ^ 30 → (s = 1 ∨ s = -1) → (k = "head" → 0 ≤ n) → (k = "tail" → 1 ≤ n) → StepR (.tuple [.str k, .int n, .int s])
inductive WayR : PyData → Prop
  | mk (b : Str) (l : List PyData) : b ∈ (["front", "end"] : List Str) → (∀ d ∈ l, StepR d) → l.length ≤ 10 → WayR (.tuple [.str b, .list l])
inductive RowR : PyData → Prop
  | leaf (a b : Nat) : a ≤ 10 ^ 30 → b ≤ 10 ^ 30 → RowR (.tuple [.str "leaf", .int a, .int b])
  | tie (a b : Nat) (c : Int) : a ≤ 10 ^ 30 → b ≤ 10 ^ 30 → c.natAbs ≤ 10 ^ 30 → RowR (.tuple [.str "tie", .int a, .int b, .int c])
  | find (a : Nat) (l : List PyData) : a ≤ 10 ^ 30 → (∀ d ∈ l, WayR d) → l.length ≤ 7 → RowR (.tuple [.str "find", .int a, .list l])
def stepW : PyData → List Str
  | .tuple ds => ds.map wz
  | _ => []
def wayW : PyData → List Str
  | .tuple [.str b, .list l] => b :: l.flatMap stepW
  | _ => []
def joinOr : List (List Str) → List Str
  | [] => []
  | [g] => g
  | g :: h :: r => g ++ ("or" : Str) :: joinOr (h :: r)
def rowW : PyData → List Str
  | .tuple [.str k, a, .list l] => k :: wz a :: joinOr (l.map wayW)
  | .tuple ds => ds.map wz
  | _ => []
theorem kinds_ok : (["go", "head", "tail", "here", "front", "end", "find", "leaf", "tie", "code"] : List Str).all (fun s => (sgnO s).isNone && (!decide (s = "or") && wokB s)) = true := by decide +kernel
theorem ScR.lit {s : Str} (h : s ∈ (["go", "head", "tail", "here", "front", "end", "find", "leaf", "tie", "code"] : List Str)) : ScR (.str s) := by
  have := List.all_eq_true.mp kinds_ok s h
  rw [Bool.and_eq_true, Bool.and_eq_true, Bool.not_eq_true', decide_eq_false_iff_not] at this
  exact .str s (Option.isNone_iff_eq_none.mp this.1) this.2.1 (wok_of this.2.2)
theorem sc_nil : ∀ d ∈ ([] : List PyData), ScR d := fun d h => nomatch h
theorem sc_cons {a : PyData} {l : List PyData} (h : ScR a) (k : ∀ d ∈ l, ScR d) : ∀ d ∈ a :: l, ScR d := fun d hd => by
  rcases List.mem_cons.mp hd with rfl | hd
  · exact h
  · exact k d hd
theorem sgn_1 {s : Int} (h : s = 1 ∨ s = -1) : s.natAbs ≤ 10 ^ 30 := by
  rcases h with rfl | rfl <;> decide
theorem StepR.sc {d : PyData} (h : StepR d) : ∃ k r, d = .tuple (.str k :: r) ∧ (∀ e ∈ PyData.str k :: r, ScR e) ∧ (PyData.str k :: r).length = stpN k ∧ stepB d = true := by
  cases h with
  | go n hn => exact ⟨"go", [.int n], rfl, sc_cons (.lit (by simp)) (sc_cons (.int n hn) sc_nil), by show 2 = stpN "go"; decide +kernel, rfl⟩
  | sz k n s hk hn hs h1 h2 =>
    have kg : k ≠ "go" := fun z => by rw [z] at hk; exact absurd hk (by decide +kernel)
    refine ⟨k, [.int n, .int s], rfl, sc_cons (.lit (by simp only [List.mem_cons, List.not_mem_nil, or_false] at hk ⊢; rcases hk with h | h | h <;> simp [h])) (sc_cons (.int n hn) (sc_cons (.int s (sgn_1 hs)) sc_nil)), by unfold stpN; rw [if_neg kg]; rfl, ?_⟩
    show step3 k n s = true
    unfold step3
    have e1 : (decide (s = 1) || decide (s = -1)) = true := by
      rcases hs with rfl | rfl <;> decide
    rw [e1, Bool.true_and]
    by_cases c1 : k = "head"
    · rw [if_pos c1]
      exact decide_eq_true (h1 c1)
    · rw [if_neg c1]
      by_cases c2 : k = "tail"
      · rw [if_pos c2]
        exact decide_eq_true (h2 c2)
      · rw [if_neg c2]
        simp only [List.mem_cons, List.not_mem_nil, or_false] at hk
        exact decide_eq_true ((hk.resolve_left c1).resolve_left c2)
theorem StepR.chunk {d : PyData} (h : StepR d) (r : List Str) : chunkF (stepW d ++ r) = stepW d :: chunkF r ∧ chD (stepW d) = d := by
  obtain ⟨k, l, rfl, sc, ln, _⟩ := h.sc
  have e : stepW (.tuple (.str k :: l)) = k :: l.map wz := rfl
  have l2 : (k :: l.map wz).length = stpN k := by rw [← ln, List.length_cons, List.length_cons, List.length_map]
  constructor
  · rw [e, List.cons_append, chunk_cons, ← List.cons_append]
    conv => lhs; rw [← l2]
    rw [List.take_left, List.drop_left]
  · exact chD_wz (ds := .str k :: l) sc
theorem chunk_steps : ∀ {l : List PyData}, (∀ d ∈ l, StepR d) → ∀ r : List Str, chunkF (l.flatMap stepW ++ r) = l.map stepW ++ chunkF r
  | [], _, r => rfl
  | d :: l, h, r => by
    rw [List.flatMap_cons, List.append_assoc, ((h d List.mem_cons_self).chunk _).1, chunk_steps fun e he => h e (List.mem_cons_of_mem _ he)]
    rfl
theorem chunk_data {l : List PyData} (h : ∀ d ∈ l, StepR d) : (l.map stepW).map chD = l := by
  rw [List.map_map]
  conv => rhs; rw [← List.map_id l]
  exact List.map_congr_left fun d hd => ((h d hd).chunk []).2
theorem steps_all {l : List PyData} (h : ∀ d ∈ l, StepR d) : l.all stepB = true := List.all_eq_true.mpr fun d hd => by
  obtain ⟨_, _, _, _, _, e⟩ := (h d hd).sc
  exact e
theorem WayR.d {d : PyData} (h : WayR d) : wayF (wayW d) = some d := by
  cases h with
  | mk b l hb hl ll =>
    have e : wayW (.tuple [.str b, .list l]) = b :: l.flatMap stepW := rfl
    have ec : chunkF (l.flatMap stepW) = l.map stepW := by
      have := chunk_steps hl []
      rw [List.append_nil, chunk_nil, List.append_nil] at this
      exact this
    have sb : ScR (.str b) := .lit (by simp only [List.mem_cons, List.not_mem_nil, or_false] at hb ⊢; rcases hb with h | h <;> simp [h])
    have ed : wayD (b :: l.flatMap stepW) = .tuple [.str b, .list l] := by
      unfold wayD
      show PyData.tuple [wD b, .list ((chunkF (l.flatMap stepW)).map chD)] = _
      rw [ec, chunk_data hl, show wD b = .str b from sb.wd]
    rw [e]
    unfold wayF
    rw [if_neg (List.cons_ne_nil _ _), ed, if_pos]
    show (decide (b ∈ (["front", "end"] : List Str)) && l.all stepB) = true
    rw [decide_eq_true hb, steps_all hl]
    rfl
theorem WayR.no_or {d : PyData} (h : WayR d) : ∀ w ∈ wayW d, w ≠ "or" ∧ WOk w ∧ bigN w = false := by
  cases h with
  | mk b l hb hl ll =>
    have sb : ScR (.str b) := .lit (by simp only [List.mem_cons, List.not_mem_nil, or_false] at hb ⊢; rcases hb with h | h <;> simp [h])
    intro w hw
    rcases List.mem_cons.mp (show w ∈ b :: l.flatMap stepW from hw) with rfl | hw
    · exact ⟨sb.no_or, sb.wok, sb.big⟩
    · obtain ⟨s, hs, hw⟩ := List.mem_flatMap.mp hw
      obtain ⟨k, r, rfl, sc, _, _⟩ := (hl s hs).sc
      obtain ⟨e, he, rfl⟩ := List.mem_map.mp (show w ∈ (PyData.str k :: r).map wz from hw)
      exact ⟨(sc e he).no_or, (sc e he).wok, (sc e he).big⟩
theorem WayR.len {d : PyData} (h : WayR d) : (wayW d).length ≤ 31 ∧ wayW d ≠ [] := by
  cases h with
  | mk b l hb hl ll =>
    refine ⟨?_, List.cons_ne_nil _ _⟩
    show (l.flatMap stepW).length + 1 ≤ 31
    have : (l.flatMap stepW).length ≤ 3 * l.length := by
      clear ll
      induction l with
      | nil => exact Nat.zero_le _
      | cons a l ih =>
        rw [List.flatMap_cons, List.length_append, List.length_cons]
        have := ih fun d hd => hl d (List.mem_cons_of_mem _ hd)
        obtain ⟨k, r, rfl, sc, ln, _⟩ := (hl a List.mem_cons_self).sc
        have l3 : (stepW (.tuple (.str k :: r))).length ≤ 3 := by
          show ((PyData.str k :: r).map wz).length ≤ 3
          rw [List.length_map, ln]
          unfold stpN
          split <;> omega
        omega
    omega
/-! pieces between "or" -/
theorem or_run : ∀ {g : List Str}, (∀ w ∈ g, w ≠ "or") → ∀ (r : List Str) (acc : List (List Str) × List Str), (g ++ r).foldl orS acc = r.foldl orS (acc.1, acc.2 ++ g)
  | [], _, r, acc => by rw [List.append_nil]; rfl
  | w :: g, h, r, acc => by
    rw [List.cons_append, List.foldl_cons]
    have e : orS acc w = (acc.1, acc.2 ++ [w]) := by
      unfold orS
      rw [if_neg (h w List.mem_cons_self)]
    rw [e, or_run (fun x hx => h x (List.mem_cons_of_mem _ hx))]
    show List.foldl orS (acc.1, acc.2 ++ [w] ++ g) r = _
    rw [List.append_assoc]
    rfl
theorem or_join : ∀ {l : List (List Str)}, l ≠ [] → (∀ g ∈ l, ∀ w ∈ g, w ≠ "or") → ∀ (r : List Str) (done : List (List Str)), ∃ (gs : List (List Str)) (g : List Str), l = gs ++ [g] ∧ (joinOr l ++ r).foldl orS (done, []) = r.foldl orS (done ++ gs, g)
  | [], h, _, _, _ => absurd rfl h
  | [g], _, h, r, done => ⟨[], g, rfl, by
      show (g ++ r).foldl orS (done, []) = _
      rw [or_run (h g List.mem_cons_self), List.append_nil]
      rfl⟩
  | g :: h :: l, _, hn, r, done => by
    obtain ⟨gs, g', e, f⟩ := or_join (l := h :: l) (List.cons_ne_nil _ _) (fun x hx => hn x (List.mem_cons_of_mem _ hx)) r (done ++ [g])
    refine ⟨g :: gs, g', by rw [e]; rfl, ?_⟩
    show ((g ++ ("or" : Str) :: joinOr (h :: l)) ++ r).foldl orS (done, []) = _
    rw [List.append_assoc, or_run (hn g List.mem_cons_self), List.cons_append, List.foldl_cons]
    have e2 : orS (done, [] ++ g) "or" = (done ++ [g], []) := by
      unfold orS
      rw [if_pos rfl]
      rfl
    rw [e2, f, List.append_assoc]
    rfl
theorem split_join_or {l : List (List Str)} (h : l ≠ []) (hn : ∀ g ∈ l, ∀ w ∈ g, w ≠ "or") : splitOr (joinOr l) = l := by
  obtain ⟨gs, g, e, f⟩ := or_join h hn [] []
  rw [List.append_nil] at f
  unfold splitOr
  rw [f]
  exact e.symm
theorem joinOr_ne {l : List (List Str)} (h : l ≠ []) (hn : ∀ g ∈ l, g ≠ []) : joinOr l ≠ [] := by
  match l, h with
  | [g], _ => exact hn g List.mem_cons_self
  | g :: h :: r, _ =>
    show g ++ ("or" : Str) :: joinOr (h :: r) ≠ []
    simp
theorem ways_ok {l : List PyData} (h : ∀ d ∈ l, WayR d) : waysF (joinOr (l.map wayW)) = some l := by
  unfold waysF
  by_cases c : l = []
  · subst c
    rfl
  · have ne : l.map wayW ≠ [] := fun z => c (List.map_eq_nil_iff.mp z)
    have hg : ∀ g ∈ l.map wayW, ∃ d ∈ l, g = wayW d := fun g hg => by
      obtain ⟨d, hd, rfl⟩ := List.mem_map.mp hg
      exact ⟨d, hd, rfl⟩
    have sp : splitOr (joinOr (l.map wayW)) = l.map wayW := split_join_or ne fun g hg' w hw => by
      obtain ⟨d, hd, rfl⟩ := hg g hg'
      exact ((h d hd).no_or w hw).1
    rw [if_neg (joinOr_ne ne fun g hg' => by obtain ⟨d, hd, rfl⟩ := hg g hg'; exact (h d hd).len.2), sp, if_pos]
    · rw [List.map_map]
      congr 1
      conv => rhs; rw [← List.map_id l]
      exact List.map_congr_left fun d hd => by
        show (wayF (wayW d)).getD .none = d
        rw [(h d hd).d]
        rfl
    · exact List.all_eq_true.mpr fun g hg' => by
        obtain ⟨d, hd, rfl⟩ := hg g hg'
        rw [(h d hd).d]
        rfl
theorem joinOr_len {l : List (List Str)} {n : Nat} (h : ∀ g ∈ l, g.length ≤ n) : (joinOr l).length ≤ l.length * (n + 1) := by
  match l with
  | [] => exact Nat.zero_le _
  | [g] =>
    have := h g List.mem_cons_self
    show g.length ≤ 1 * (n + 1)
    omega
  | g :: h' :: r =>
    have := joinOr_len (l := h' :: r) fun x hx => h x (List.mem_cons_of_mem _ hx)
    have h1 := h g List.mem_cons_self
    show (g ++ ("or" : Str) :: joinOr (h' :: r)).length ≤ (r.length + 1 + 1) * (n + 1)
    rw [List.length_append, List.length_cons, Nat.succ_mul]
    have e : (h' :: r).length = r.length + 1 := rfl
    rw [e] at this
    omega
theorem joinOr_mem {l : List (List Str)} {w : Str} (hw : w ∈ joinOr l) : w = "or" ∨ ∃ g ∈ l, w ∈ g := by
  match l with
  | [] => cases hw
  | [g] => exact .inr ⟨g, List.mem_cons_self, hw⟩
  | g :: h' :: r =>
    rcases List.mem_append.mp (show w ∈ g ++ ("or" : Str) :: joinOr (h' :: r) from hw) with hw | hw
    · exact .inr ⟨g, List.mem_cons_self, hw⟩
    · rcases List.mem_cons.mp hw with rfl | hw
      · exact .inl rfl
      · rcases joinOr_mem hw with z | ⟨x, hx, z⟩
        · exact .inl z
        · exact .inr ⟨x, List.mem_cons_of_mem _ hx, z⟩
theorem or_ok : WOk ("or" : Str) ∧ bigN ("or" : Str) = false := ⟨wok_of (by decide +kernel), by decide +kernel⟩
theorem nat30 {n : Nat} (h : n ≤ 10 ^ 30) : ScR (.int (n : Nat)) := .int _ (by omega)
/-- a right row's words -/
theorem RowR.words {d : PyData} (h : RowR d) : (∀ w ∈ rowW d, WOk w ∧ bigN w = false) ∧ (rowW d).length ≤ 230 ∧ 2 ≤ (rowW d).length := by
  have sc : ∀ {l : List PyData}, (∀ e ∈ l, ScR e) → ∀ w ∈ l.map wz, WOk w ∧ bigN w = false := fun h w hw => by
    obtain ⟨e, he, rfl⟩ := List.mem_map.mp hw
    exact ⟨(h e he).wok, (h e he).big⟩
  cases h with
  | leaf a b h1 h2 => exact ⟨sc (sc_cons (.lit (by simp)) (sc_cons (nat30 h1) (sc_cons (nat30 h2) sc_nil))), by show 3 ≤ 230; decide, by show 2 ≤ 3; decide⟩
  | tie a b c h1 h2 h3 => exact ⟨sc (sc_cons (.lit (by simp)) (sc_cons (nat30 h1) (sc_cons (nat30 h2) (sc_cons (.int c h3) sc_nil)))), by show 4 ≤ 230; decide, by show 2 ≤ 4; decide⟩
  | find a l h1 hl ll =>
    have e : rowW (.tuple [.str "find", .int (a : Nat), .list l]) = ("find" : Str) :: numZ (a : Nat) :: joinOr (l.map wayW) := rfl
    rw [e]
    refine ⟨fun w hw => ?_, ?_, by simp⟩
    · have s2 := sc (sc_cons (.lit (s := "find") (by simp)) (sc_cons (nat30 h1) sc_nil))
      rcases List.mem_cons.mp hw with rfl | hw
      · exact s2 _ (by simp [wz])
      rcases List.mem_cons.mp hw with rfl | hw
      · exact s2 _ (by simp [wz])
      rcases joinOr_mem hw with rfl | ⟨g, hg, hw⟩
      · exact or_ok
      · obtain ⟨y, hy, rfl⟩ := List.mem_map.mp hg
        exact ((hl y hy).no_or w hw).2
    · have := joinOr_len (l := l.map wayW) (n := 31) fun g hg => by
        obtain ⟨y, hy, rfl⟩ := List.mem_map.mp hg
        exact (hl y hy).len.1
      rw [List.length_map] at this
      rw [List.length_cons, List.length_cons]
      omega
theorem rowF_flat {ws : List Str} {d : PyData} (h0 : ws.getD 0 e0 ∈ (["tie", "leaf"] : List Str)) (e : chD ws = d) (hb : rowB d = true) : rowF ws = some d := by
  unfold rowF
  rw [if_pos h0, e, if_pos hb]
theorem rowF_find {ws : List Str} {l : List PyData} {d : PyData} (h0 : ws.getD 0 e0 = "find") (h1 : 1 < ws.length) (hw : waysF (ws.drop 2) = some l) (e : findD ws l = d) (hb : rowB d = true) : rowF ws = some d := by
  unfold rowF
  rw [if_neg (by rw [h0]; decide +kernel), if_pos ⟨h0, h1⟩, hw]
  show (if rowB (findD ws l) = true then some (findD ws l) else none) = _
  rw [e, if_pos hb]
/-- a right row is read back -/
theorem RowR.back {d : PyData} (h : RowR d) : rowF (rowW d) = some d := by
  cases h with
  | leaf a b h1 h2 =>
    have e : chD (rowW (.tuple [.str "leaf", .int (a : Nat), .int (b : Nat)])) = .tuple [.str "leaf", .int (a : Nat), .int (b : Nat)] := chD_wz (sc_cons (.lit (by simp)) (sc_cons (nat30 h1) (sc_cons (nat30 h2) sc_nil)))
    refine rowF_flat (show ("leaf" : Str) ∈ (["tie", "leaf"] : List Str) by simp) e ?_
    show row3D "leaf" _ _ = true
    unfold row3D
    rw [if_pos rfl]
    show (decide ((0 : Int) ≤ (a : Nat)) && decide ((0 : Int) ≤ (b : Nat))) = true
    rw [decide_eq_true (by omega), decide_eq_true (by omega)]
    rfl
  | tie a b c h1 h2 h3 =>
    have e : chD (rowW (.tuple [.str "tie", .int (a : Nat), .int (b : Nat), .int c])) = .tuple [.str "tie", .int (a : Nat), .int (b : Nat), .int c] := chD_wz (sc_cons (.lit (by simp)) (sc_cons (nat30 h1) (sc_cons (nat30 h2) (sc_cons (.int c h3) sc_nil))))
    refine rowF_flat (show ("tie" : Str) ∈ (["tie", "leaf"] : List Str) by simp) e ?_
    show row4D "tie" _ _ _ = true
    unfold row4D
    show (decide (("tie" : Str) = "tie") && (decide ((0 : Int) ≤ (a : Nat)) && (decide ((0 : Int) ≤ (b : Nat)) && true))) = true
    rw [decide_eq_true rfl, decide_eq_true (by omega), decide_eq_true (by omega)]
    rfl
  | find a l h1 hl ll =>
    have e : rowW (.tuple [.str "find", .int (a : Nat), .list l]) = ("find" : Str) :: numZ (a : Nat) :: joinOr (l.map wayW) := rfl
    rw [e]
    have ed : findD (("find" : Str) :: numZ (a : Nat) :: joinOr (l.map wayW)) l = .tuple [.str "find", .int (a : Nat), .list l] := by
      unfold findD
      show PyData.tuple [.str "find", wD (numZ (a : Nat)), .list l] = _
      rw [show wD (numZ (a : Nat)) = .int (a : Nat) from (nat30 h1).wd]
    refine rowF_find (l := l) rfl (by simp) (ways_ok hl) ed ?_
    show row3D "find" _ _ = true
    unfold row3D
    rw [if_neg (by decide +kernel)]
    show (decide (("find" : Str) = "find") && (decide ((0 : Int) ≤ (a : Nat)) && l.all wayB)) = true
    have : l.all wayB = true := List.all_eq_true.mpr fun d hd => by
      have := (wayF_some (hl d hd).d).2.1
      rwa [← (wayF_some (hl d hd).d).1] at this
    rw [decide_eq_true rfl, decide_eq_true (by omega), this]
    rfl

end
end K35
set_option maxRecDepth 100000
set_option maxHeartbeats 4000000
namespace K35
open PySem PySem.Spec PyProof.Rows L2 L3
local macro_rules | `(tactic| walk_at "s1") => `(tactic| first
  | with_reducible refine r_seq ?_
  | with_reducible refine r_asgN ?_
  | with_reducible refine r_ret ?_
  | with_reducible refine r_next ?_
  | ((with_reducible refine' r_var ?hv ?_); (case hv => exact rfl))
  | with_reducible refine r_c ?_
  | with_reducible refine r_op ?_
  | with_reducible refine r_cons ?_
  | with_reducible refine r_nil ?_
  | with_reducible refine r_plusI ?_
  | with_reducible refine r_I0 ?_
  | with_reducible refine r_test ?_
  | with_reducible refine r_bl ?_
  | with_reducible refine r_ifS ?_
  | with_reducible refine r_cb ?_
  | with_reducible refine r_callS ?_
  | with_reducible refine r_and ?_
  | with_reducible refine r_or ?_
  | with_reducible refine r_not ?_
  | with_reducible refine r_B ?_
  | ((with_reducible refine' r_aug ?hv ?_); (case hv => exact rfl))
  | with_reducible refine r_augS ?_
  | with_reducible refine r_ipI ?_
  | with_reducible refine r_asg ?_
  | with_reducible refine r_sub ?_
  | with_reducible refine r_brk ?_
  | with_reducible refine r_isN1 ?_
  | with_reducible refine r_notN1 ?_
  | with_reducible refine r_intI ?_
  | with_reducible refine r_abs ?_
  | with_reducible refine r_min ?_
  | with_reducible refine r_max ?_
  | ((with_reducible refine' r_mod ?hz ?_); (case hz => omega))
  | ((with_reducible refine' r_pow ?hz ?_); (case hz => exact ⟨by decide, by decide, by decide⟩))
  | ((with_reducible refine' r_rg1 ?hz ?_); (case hz => omega))
  | ((with_reducible refine' r_rg2 ?hz ?_); (case hz => omega))
  | ((with_reducible refine' r_newL ?hz ?_); (case hz => exact Nat.le_of_ble_eq_true rfl))
  | ((with_reducible refine' r_newT ?hz ?_); (case hz => exact Nat.le_of_ble_eq_true rfl))
  | with_reducible refine r_for ?_
  | with_reducible refine r_lc ?_
  | with_reducible refine r_iR1 ?_
  | with_reducible refine r_iR2 ?_
  | with_reducible refine r_iL ?_
  | with_reducible refine r_iT ?_
  | with_reducible refine r_gname ?_
  | with_reducible refine r_gcons ?_
  | with_reducible refine r_gnil ?_
  | with_reducible refine r_yes ?_
  | with_reducible refine r_mkO ?_
  | with_reducible refine r_cont ?_
  | with_reducible refine r_drop ?_
  | with_reducible refine r_retN ?_
  | with_reducible refine r_ifC ?_
  | with_reducible refine r_ifI ?_
  | with_reducible refine r_if ?_
  | with_reducible refine r_un ?_
  | with_reducible refine r_neg ?_
  | with_reducible refine r_andV ?_
  | with_reducible refine r_orV ?_
  | with_reducible refine r_notV ?_
  | with_reducible refine r_tup ?_
  | with_reducible refine r_lst ?_
  | with_reducible refine r_bm ?_
  | with_reducible refine r_bm0 ?_
  | with_reducible refine r_sl ?_
  | with_reducible refine r_chain ?_
  | with_reducible refine r_listDn ?_
  | with_reducible refine r_listRg2 ?_
  | with_reducible refine r_listRg1 ?_
  | with_reducible refine r_revL ?_
  | with_reducible refine r_noPart ?_
  | with_reducible refine r_meth ?_
  | with_reducible refine r_methE ?_
  | with_reducible refine r_js ?_
  | with_reducible refine r_jsC ?_
  | with_reducible refine r_jsN ?_
  | with_reducible refine r_fmt ?_
  | with_reducible refine r_fld ?_
  | with_reducible refine r_sfld ?_
  | with_reducible refine r_make ?_
  | with_reducible refine r_m1 ?_
  | with_reducible refine r_m1s ?_
  | with_reducible refine r_iS ?_
  | with_reducible refine r_iE ?_
  | with_reducible refine r_si ?_
  | with_reducible refine r_strS ?_
  | with_reducible refine r_dgt ?_
  | with_reducible refine r_din ?_
  | with_reducible refine r_dnin ?_
  | with_reducible refine r_dput ?_
  | with_reducible refine r_dnew ?_
  | with_reducible refine r_disp1 ?_
  | with_reducible refine r_lenSet ?_
  | with_reducible refine r_get2 ?_
  | with_reducible refine r_get1 ?_
  | with_reducible refine r_daug ?_
  | with_reducible refine r_iR3 ?_
  | with_reducible refine r_prC ?_
  | with_reducible refine r_prN ?_
  | with_reducible refine r_part ?_
  | with_reducible refine r_int ?_
  | ((with_reducible refine' r_sameS ?hs ?_); (case hs => exact rfl))
  | ((with_reducible refine' r_otherS ?hs ?_); (case hs => exact rfl))
  | with_reducible refine ite_t ?_
  | with_reducible refine ite_f ?_
  | with_reducible refine ite_nt ?_
  | with_reducible refine ite_nf ?_)
local macro_rules | `(tactic| walk_at "st") => `(tactic| repeat (walk_at "s1"))
local macro_rules | `(tactic| walk_at "su") => `(tactic| first
  | with_reducible refine r_seq ?_
  | with_reducible refine r_asgN ?_
  | with_reducible refine r_ret ?_
  | with_reducible refine r_next ?_
  | ((with_reducible refine' r_var ?hv ?_); (case hv => exact rfl))
  | with_reducible refine r_c ?_
  | with_reducible refine r_op ?_
  | with_reducible refine r_cons ?_
  | with_reducible refine r_nil ?_
  | with_reducible refine r_plusI ?_
  | with_reducible refine r_I0 ?_
  | with_reducible refine r_test ?_
  | with_reducible refine r_bl ?_
  | with_reducible refine r_cb ?_
  | with_reducible refine r_callS ?_
  | with_reducible refine r_and ?_
  | with_reducible refine r_or ?_
  | with_reducible refine r_not ?_
  | with_reducible refine r_B ?_
  | ((with_reducible refine' r_aug ?hv ?_); (case hv => exact rfl))
  | with_reducible refine r_augS ?_
  | with_reducible refine r_ipI ?_
  | with_reducible refine r_asg ?_
  | with_reducible refine r_sub ?_
  | with_reducible refine r_brk ?_
  | with_reducible refine r_isN1 ?_
  | with_reducible refine r_notN1 ?_
  | with_reducible refine r_intI ?_
  | with_reducible refine r_abs ?_
  | with_reducible refine r_min ?_
  | with_reducible refine r_max ?_
  | ((with_reducible refine' r_mod ?hz ?_); (case hz => omega))
  | ((with_reducible refine' r_pow ?hz ?_); (case hz => exact ⟨by decide, by decide, by decide⟩))
  | ((with_reducible refine' r_rg1 ?hz ?_); (case hz => omega))
  | ((with_reducible refine' r_rg2 ?hz ?_); (case hz => omega))
  | ((with_reducible refine' r_newL ?hz ?_); (case hz => exact Nat.le_of_ble_eq_true rfl))
  | ((with_reducible refine' r_newT ?hz ?_); (case hz => exact Nat.le_of_ble_eq_true rfl))
  | with_reducible refine r_for ?_
  | with_reducible refine r_lc ?_
  | with_reducible refine r_iR1 ?_
  | with_reducible refine r_iR2 ?_
  | with_reducible refine r_iL ?_
  | with_reducible refine r_iT ?_
  | with_reducible refine r_gname ?_
  | with_reducible refine r_gcons ?_
  | with_reducible refine r_gnil ?_
  | with_reducible refine r_yes ?_
  | with_reducible refine r_mkO ?_
  | with_reducible refine r_cont ?_
  | with_reducible refine r_drop ?_
  | with_reducible refine r_retN ?_
  | with_reducible refine r_ifC ?_
  | with_reducible refine r_ifI ?_
  | with_reducible refine r_if ?_
  | with_reducible refine r_un ?_
  | with_reducible refine r_neg ?_
  | with_reducible refine r_andV ?_
  | with_reducible refine r_orV ?_
  | with_reducible refine r_notV ?_
  | with_reducible refine r_tup ?_
  | with_reducible refine r_lst ?_
  | with_reducible refine r_bm ?_
  | with_reducible refine r_bm0 ?_
  | with_reducible refine r_sl ?_
  | with_reducible refine r_chain ?_
  | with_reducible refine r_listDn ?_
  | with_reducible refine r_listRg2 ?_
  | with_reducible refine r_listRg1 ?_
  | with_reducible refine r_revL ?_
  | with_reducible refine r_noPart ?_
  | with_reducible refine r_meth ?_
  | with_reducible refine r_methE ?_
  | with_reducible refine r_js ?_
  | with_reducible refine r_jsC ?_
  | with_reducible refine r_jsN ?_
  | with_reducible refine r_fmt ?_
  | with_reducible refine r_fld ?_
  | with_reducible refine r_sfld ?_
  | with_reducible refine r_make ?_
  | with_reducible refine r_m1 ?_
  | with_reducible refine r_m1s ?_
  | with_reducible refine r_iS ?_
  | with_reducible refine r_iE ?_
  | with_reducible refine r_si ?_
  | with_reducible refine r_strS ?_
  | with_reducible refine r_dgt ?_
  | with_reducible refine r_din ?_
  | with_reducible refine r_dnin ?_
  | with_reducible refine r_dput ?_
  | with_reducible refine r_dnew ?_
  | with_reducible refine r_disp1 ?_
  | with_reducible refine r_lenSet ?_
  | with_reducible refine r_get2 ?_
  | with_reducible refine r_get1 ?_
  | with_reducible refine r_daug ?_
  | with_reducible refine r_iR3 ?_
  | with_reducible refine r_prC ?_
  | with_reducible refine r_prN ?_
  | with_reducible refine r_part ?_
  | with_reducible refine r_int ?_
  | ((with_reducible refine' r_sameS ?hs ?_); (case hs => exact rfl))
  | ((with_reducible refine' r_otherS ?hs ?_); (case hs => exact rfl))
  | with_reducible refine ite_t ?_
  | with_reducible refine ite_f ?_
  | with_reducible refine ite_nt ?_
  | with_reducible refine ite_nf ?_)
local macro_rules | `(tactic| walk_at "sv") => `(tactic| repeat (walk_at "su"))

section
variable {P : Program} {w : World} {K : PySem.W.Frag} {mg : Str → Option Value} {base : Heap}

/-! ### lines that are spoilt -/
theorem partsF_w {ws : List Str} (ne : ws ≠ []) (h : ∀ x ∈ ws, WOk x) : partsF (jn ws) = some ws := by
  unfold partsF
  rw [split_any ne fun x hx => wok_no32 (h x hx), if_pos]
  rw [Bool.and_eq_true, Bool.not_eq_true', decide_eq_false_iff_not]
  refine ⟨List.all_eq_true.mpr fun c hc => ?_, fun hm => (h _ hm).ne rfl⟩
  have := jn_mem h hc
  unfold okC
  rw [Bool.and_eq_true, decide_eq_true_iff, decide_eq_true_iff]
  exact this
theorem rowL_w {ws : List Str} (ne : ws ≠ []) (h : ∀ x ∈ ws, WOk x) : rowL (jn ws) = rowF ws := by
  unfold rowL
  rw [partsF_w ne h]
  rfl
theorem headL_w {ws : List Str} (ne : ws ≠ []) (h : ∀ x ∈ ws, WOk x) : headL (jn ws) = headF ws := by
  unfold headL
  rw [partsF_w ne h]
  rfl
/-- a number word put for another word -/
inductive Rp (w' : Str) : List Str → List Str → Prop
  | here (w : Str) (n : Int) (B : List Str) : sgnO w = some n → Rp w' (w :: B) (w' :: B)
  | there (a : Str) {l l' : List Str} : Rp w' l l' → Rp w' (a :: l) (a :: l')
theorem Rp.of_set {w' : Str} : ∀ {ws : List Str} {i : Nat} {w : Str} {n : Int}, ws[i]? = some w → sgnO w = some n → Rp w' ws (ws.set i w')
  | [], i, w, n, h, _ => by simp at h
  | a :: ws, 0, w, n, h, hs => by
    have e : a = w := Option.some.inj h
    subst e
    exact .here a n ws hs
  | a :: ws, i + 1, w, n, h, hs => .there a (Rp.of_set (i := i) (by simpa using h) hs)
theorem Rp.app {w' : Str} : ∀ {X Y Z : List Str}, Rp w' (X ++ Y) Z → (∃ X', Rp w' X X' ∧ Z = X' ++ Y) ∨ ∃ Y', Rp w' Y Y' ∧ Z = X ++ Y'
  | [], Y, Z, h => .inr ⟨Z, h, rfl⟩
  | a :: X, Y, Z, h => by
    cases h with
    | here w n B hs => exact .inl ⟨_, .here a n X hs, rfl⟩
    | there a h =>
      rcases Rp.app h with ⟨X', h1, rfl⟩ | ⟨Y', h1, rfl⟩
      · exact .inl ⟨a :: X', .there a h1, rfl⟩
      · exact .inr ⟨Y', h1, rfl⟩
theorem Rp.len {w' : Str} {l l' : List Str} (h : Rp w' l l') : l'.length = l.length := by
  induction h with
  | here w n B hs => rfl
  | there a _ ih => rw [List.length_cons, List.length_cons, ih]
theorem Rp.mem {w' : Str} {l l' : List Str} (h : Rp w' l l') : w' ∈ l' ∧ ∀ x ∈ l', x = w' ∨ x ∈ l := by
  induction h with
  | here w n B hs =>
    refine ⟨List.mem_cons_self, fun x hx => ?_⟩
    rcases List.mem_cons.mp hx with h | h
    · exact .inl h
    · exact .inr (List.mem_cons_of_mem _ h)
  | there a _ ih =>
    refine ⟨List.mem_cons_of_mem _ ih.1, fun x hx => ?_⟩
    rcases List.mem_cons.mp hx with rfl | h
    · exact .inr List.mem_cons_self
    · exact (ih.2 x h).imp id (List.mem_cons_of_mem _)
theorem no_str {w : Str} (h : sgnO w = none) : wD w = .str w := by
  unfold wD
  rw [h]
section
variable {w' : Str} (hw : sgnO w' = none) (ho : w' ≠ "or")
include hw
theorem rp_step {d : PyData} (h : StepR d) {s' : List Str} (r : Rp w' (stepW d) s') : ∃ k t, s' = k :: t ∧ s'.length = stpN k ∧ stepB (chD s') = false := by
  obtain ⟨k, l, rfl, sc, ln, _⟩ := h.sc
  have hk : sgnO k = none := by
    have := sc (.str k) List.mem_cons_self
    cases this with
    | str _ h _ _ => exact h
  have r : Rp w' (k :: l.map wz) s' := r
  cases r with
  | here _ n _ hs => rw [hk] at hs; cases hs
  | there _ r2 =>
    rename_i t
    refine ⟨k, t, rfl, by rw [List.length_cons, r2.len, List.length_map]; exact ln, ?_⟩
    have e : chD (k :: t) = .tuple (.str k :: t.map wD) := by
      unfold chD
      rw [List.map_cons, no_str hk]
    rw [e]
    generalize hX : StepR (.tuple (.str k :: l)) = X at h
    cases l with
    | nil => cases r2
    | cons a l =>
      cases l with
      | nil =>
        cases r2 with
        | here _ n _ hs =>
          show (decide (k = "go") && wholeB (wD w')) = false
          rw [no_str hw]
          show (_ && false) = false
          rw [Bool.and_false]
        | there _ r3 => cases r3
      | cons b l =>
        cases l with
        | nil =>
          cases r2 with
          | here _ n _ hs =>
            show step3D k (wD w') _ = false
            rw [no_str hw]
            rfl
          | there _ r3 =>
            cases r3 with
            | here _ n _ hs =>
              show step3D k (wD (wz a)) (wD w') = false
              rw [no_str hw]
              unfold step3D
              split <;> rfl
            | there _ r4 => cases r4
        | cons c l =>
          have : stpN k ≤ 3 := by unfold stpN; split <;> omega
          rw [← ln, List.length_cons, List.length_cons, List.length_cons, List.length_cons] at this
          omega
theorem rp_steps : ∀ {l : List PyData}, (∀ d ∈ l, StepR d) → ∀ {z : List Str}, Rp w' (l.flatMap stepW) z → ∃ c ∈ chunkF z, stepB (chD c) = false
  | [], _, z, r => by cases r
  | d :: l, h, z, r => by
    rw [List.flatMap_cons] at r
    rcases r.app with ⟨s', r1, rfl⟩ | ⟨t', r1, rfl⟩
    · obtain ⟨k, t, rfl, ln, hb⟩ := rp_step hw (h d List.mem_cons_self) r1
      refine ⟨k :: t, ?_, hb⟩
      have et : ((k :: t) ++ l.flatMap stepW).take (stpN k) = k :: t := by rw [← ln, List.take_left]
      rw [List.cons_append, chunk_cons, ← List.cons_append, et]
      exact List.mem_cons_self
    · obtain ⟨c, hc, hb⟩ := rp_steps (fun e he => h e (List.mem_cons_of_mem _ he)) r1
      refine ⟨c, ?_, hb⟩
      rw [((h d List.mem_cons_self).chunk t').1]
      exact List.mem_cons_of_mem _ hc
end
theorem way_bad {b : Str} {z : List Str} (h : ∃ c ∈ chunkF z, stepB (chD c) = false) : wayF (b :: z) = none := by
  unfold wayF
  rw [if_neg (List.cons_ne_nil _ _), if_neg]
  intro hb
  obtain ⟨c, hc, hn⟩ := h
  have e : wayD (b :: z) = .tuple [wD b, .list ((chunkF z).map chD)] := rfl
  rw [e] at hb
  have : ((chunkF z).map chD).all stepB = true := by
    unfold wD at hb
    split at hb
    · cases hb
    · have hb : (decide (b ∈ (["front", "end"] : List Str)) && ((chunkF z).map chD).all stepB) = true := hb
      rw [Bool.and_eq_true] at hb
      exact hb.2
  have := List.all_eq_true.mp this _ (List.mem_map.mpr ⟨c, hc, rfl⟩)
  rw [hn] at this
  cases this
theorem way_head {b : Str} {z : List Str} (h : b ∉ (["front", "end"] : List Str)) : wayF (b :: z) = none := by
  unfold wayF
  rw [if_neg (List.cons_ne_nil _ _), if_neg]
  have e : wayD (b :: z) = .tuple [wD b, .list ((chunkF z).map chD)] := rfl
  rw [e]
  unfold wD
  split
  · exact Bool.noConfusion
  · show ¬ (decide (b ∈ (["front", "end"] : List Str)) && ((chunkF z).map chD).all stepB) = true
    rw [decide_eq_false h]
    exact Bool.noConfusion
theorem rp_way {w' : Str} (hw : sgnO w' = none) {d : PyData} (h : WayR d) {g' : List Str} (r : Rp w' (wayW d) g') : wayF g' = none := by
  cases h with
  | mk b l hb hl ll =>
    have r : Rp w' (b :: l.flatMap stepW) g' := r
    have sb : ScR (.str b) := .lit (by simp only [List.mem_cons, List.not_mem_nil, or_false] at hb ⊢; rcases hb with h | h <;> simp [h])
    have hsb : sgnO b = none := by
      cases sb with
      | str _ h _ _ => exact h
    cases r with
    | here _ n _ hs => rw [hsb] at hs; cases hs
    | there _ r2 => exact way_bad (rp_steps hw hl r2)
/-! pieces -/
theorem orS_keep (ws : List Str) : ∀ (acc : List (List Str) × List Str) (g : List Str), g ∈ acc.1 → g ∈ (ws.foldl orS acc).1 := by
  induction ws with
  | nil => intro acc g h; exact h
  | cons w ws ih =>
    intro acc g h
    rw [List.foldl_cons]
    refine ih _ _ ?_
    unfold orS
    split
    · exact List.mem_append_left _ h
    · exact h
def BadP (r : List (List Str) × List Str) : Prop := ∃ g ∈ r.1 ++ [r.2], wayF g = none
theorem ways_bad {ws : List Str} (ne : ws ≠ []) (h : BadP (ws.foldl orS ([], []))) : waysF ws = none := by
  obtain ⟨g, hg, hn⟩ := h
  unfold waysF
  rw [if_neg ne, if_neg]
  intro ha
  have := List.all_eq_true.mp ha g hg
  rw [hn] at this
  cases this
theorem rp_ways {w' : Str} (hw : sgnO w' = none) (ho : w' ≠ "or") : ∀ {l : List PyData}, (∀ d ∈ l, WayR d) → ∀ {X : List Str}, Rp w' (joinOr (l.map wayW)) X → ∀ done : List (List Str), BadP (X.foldl orS (done, []))
  | [], _, X, r, _ => by cases r
  | [d], h, X, r, done => by
    have r : Rp w' (wayW d) X := r
    have hd := h d List.mem_cons_self
    have no : ∀ x ∈ X, x ≠ "or" := fun x hx => by
      rcases r.mem.2 x hx with rfl | z
      · exact ho
      · exact (hd.no_or x z).1
    have := or_run no [] (done, [])
    rw [List.append_nil] at this
    rw [this]
    exact ⟨X, List.mem_append_right _ (List.mem_singleton.mpr rfl), rp_way hw hd r⟩
  | d :: e :: l, h, X, r, done => by
    have hd := h d List.mem_cons_self
    have r : Rp w' (wayW d ++ ("or" : Str) :: joinOr ((e :: l).map wayW)) X := r
    rcases r.app with ⟨g', r1, rfl⟩ | ⟨Y', r1, rfl⟩
    · have no : ∀ x ∈ g', x ≠ "or" := fun x hx => by
        rcases r1.mem.2 x hx with rfl | z
        · exact ho
        · exact (hd.no_or x z).1
      rw [or_run no, List.foldl_cons]
      have e2 : orS (done, [] ++ g') "or" = (done ++ [g'], []) := by
        unfold orS
        rw [if_pos rfl]
        rfl
      rw [e2]
      exact ⟨g', List.mem_append_left _ (orS_keep _ _ _ (List.mem_append_right _ (List.mem_singleton.mpr rfl))), rp_way hw hd r1⟩
    · cases r1 with
      | here _ n _ hs => rw [sg_or] at hs; cases hs
      | there _ r2 =>
        rw [or_run fun x hx => (hd.no_or x hx).1, List.foldl_cons]
        have e2 : orS (done, [] ++ wayW d) "or" = (done ++ [wayW d], []) := by
          unfold orS
          rw [if_pos rfl]
          rfl
        rw [e2]
        exact rp_ways hw ho (fun x hx => h x (List.mem_cons_of_mem _ hx)) r2 _
/-! rows -/
theorem find_bad {ws : List Str} (h0 : ws.getD 0 e0 = "find") (h : waysF (ws.drop 2) = none ∨ countB (wD (ws.getD 1 e0)) = false) : rowF ws = none := by
  unfold rowF
  rw [if_neg (by rw [h0]; decide +kernel)]
  split
  · cases hw : waysF (ws.drop 2) with
    | none => rfl
    | some l =>
      rcases h with h | h
      · rw [hw] at h; cases h
      · show (if rowB (findD ws l) = true then some (findD ws l) else none) = none
        rw [if_neg]
        show ¬ row3D "find" (wD (ws.getD 1 e0)) (.list l) = true
        unfold row3D
        rw [if_neg (by decide +kernel), h]
        show ¬ (_ && false) = true
        rw [Bool.and_false]
        exact Bool.noConfusion
  · rfl
theorem rowF_other {ws : List Str} (h : ws.getD 0 e0 ∉ (["tie", "leaf", "find"] : List Str)) : rowF ws = none := by
  unfold rowF
  rw [if_neg (fun z => h (by
    rcases List.mem_cons.mp z with z | z
    · rw [z]; simp
    · rw [List.mem_singleton.mp z]; simp)), if_neg (fun z => h (by rw [z.1]; simp))]
theorem flat_bad {ws : List Str} (h0 : ws.getD 0 e0 ∈ (["tie", "leaf"] : List Str)) (hb : rowB (chD ws) = false) : rowF ws = none := by
  unfold rowF
  rw [if_pos h0, if_neg (by rw [hb]; exact Bool.noConfusion)]
theorem sg_leaf : sgnO "leaf" = none := sg_tl _ (by simp)
theorem sg_tie : sgnO "tie" = none := sg_tl _ (by simp)
theorem chD_cons {k : Str} {t : List Str} (h : sgnO k = none) : chD (k :: t) = .tuple (.str k :: t.map wD) := by
  unfold chD
  rw [List.map_cons, no_str h]
theorem count_str {w : Str} (h : sgnO w = none) : countB (wD w) = false ∧ wholeB (wD w) = false := by
  rw [no_str h]
  exact ⟨rfl, rfl⟩
/-- a number word of a right row exchanged -/
theorem RowR.rp {d : PyData} (h : RowR d) {w' : Str} (hw : sgnO w' = none) (ho : w' ≠ "or") {ws : List Str} (r : Rp w' (rowW d) ws) : rowF ws = none := by
  cases h with
  | leaf a b h1 h2 =>
    have r : Rp w' (("leaf" : Str) :: [numZ (a : Nat), numZ (b : Nat)]) ws := r
    cases r with
    | here _ n _ hs => rw [sg_leaf] at hs; cases hs
    | there _ r2 =>
      refine flat_bad (by simp) ?_
      rw [chD_cons sg_leaf]
      cases r2 with
      | here _ n _ hs =>
        show row3D "leaf" (wD w') _ = false
        unfold row3D
        rw [if_pos rfl, (count_str hw).1]
        rfl
      | there _ r3 =>
        cases r3 with
        | here _ n _ hs =>
          show row3D "leaf" _ (wD w') = false
          unfold row3D
          rw [if_pos rfl, (count_str hw).1, Bool.and_false]
        | there _ r4 => cases r4
  | tie a b c h1 h2 h3 =>
    have r : Rp w' (("tie" : Str) :: [numZ (a : Nat), numZ (b : Nat), numZ c]) ws := r
    cases r with
    | here _ n _ hs => rw [sg_tie] at hs; cases hs
    | there _ r2 =>
      refine flat_bad (by simp) ?_
      rw [chD_cons sg_tie]
      cases r2 with
      | here _ n _ hs =>
        show row4D "tie" (wD w') _ _ = false
        unfold row4D
        rw [(count_str hw).1, Bool.false_and, Bool.and_false]
      | there _ r3 =>
        cases r3 with
        | here _ n _ hs =>
          show row4D "tie" _ (wD w') _ = false
          unfold row4D
          rw [(count_str hw).1, Bool.false_and, Bool.and_false, Bool.and_false]
        | there _ r4 =>
          cases r4 with
          | here _ n _ hs =>
            show row4D "tie" _ _ (wD w') = false
            unfold row4D
            rw [(count_str hw).2, Bool.and_false, Bool.and_false, Bool.and_false]
          | there _ r5 => cases r5
  | find a l h1 hl ll =>
    have r : Rp w' (("find" : Str) :: numZ (a : Nat) :: joinOr (l.map wayW)) ws := r
    cases r with
    | here _ n _ hs => rw [sg_find] at hs; cases hs
    | there _ r2 =>
      cases r2 with
      | here _ n _ hs => exact find_bad rfl (.inr (count_str hw).1)
      | there _ r3 =>
        rename_i X
        refine find_bad rfl (.inl (ways_bad (fun z => ?_) (rp_ways hw ho hl r3 [])))
        have z : X = [] := z
        rw [z] at r3
        exact nomatch r3.mem.1
/-- words behind a right row -/
theorem RowR.ext {d : PyData} (h : RowR d) {r : List Str} (hr : r ≠ []) (hb : ∀ (gs : List (List Str)) (g : List Str), g = [] ∨ (∃ e, WayR e ∧ g = wayW e) → BadP (r.foldl orS (gs, g))) : rowF (rowW d ++ r) = none := by
  have lr : 0 < r.length := List.length_pos_iff.mpr hr
  cases h with
  | leaf a b h1 h2 =>
    refine flat_bad (ws := ("leaf" : Str) :: numZ (a : Nat) :: numZ (b : Nat) :: r) (by simp) ?_
    rw [chD_cons sg_leaf]
    match r, hr with
    | [x], _ =>
      show row4D "leaf" _ _ _ = false
      unfold row4D
      rw [decide_eq_false (by decide +kernel), Bool.false_and]
    | x :: y :: r, _ => rfl
  | tie a b c h1 h2 h3 =>
    refine flat_bad (ws := ("tie" : Str) :: numZ (a : Nat) :: numZ (b : Nat) :: numZ c :: r) (by simp) ?_
    rw [chD_cons sg_tie]
    match r, hr with
    | x :: r, _ => rfl
  | find a l h1 hl ll =>
    refine find_bad (ws := ("find" : Str) :: numZ (a : Nat) :: (joinOr (l.map wayW) ++ r)) rfl (.inl (ways_bad (ws := joinOr (l.map wayW) ++ r) (by simp [hr]) ?_))
    by_cases c : l = []
    · subst c
      exact hb [] [] (.inl rfl)
    · obtain ⟨gs, g, e, f⟩ := or_join (l := l.map wayW) (fun z => c (List.map_eq_nil_iff.mp z)) (fun g hg w hw => by
        obtain ⟨y, hy, rfl⟩ := List.mem_map.mp hg
        exact ((hl y hy).no_or w hw).1) r []
      rw [f]
      have hg : g ∈ l.map wayW := by rw [e]; simp
      obtain ⟨y, hy, rfl⟩ := List.mem_map.mp hg
      exact hb _ _ (.inr ⟨y, hl y hy, rfl⟩)
theorem way_ext {e : PyData} (h : WayR e) {r : List Str} (hr : ∃ c ∈ chunkF r, stepB (chD c) = false) : wayF (wayW e ++ r) = none := by
  cases h with
  | mk b l hb hl ll =>
    obtain ⟨c, hc, hn⟩ := hr
    refine way_bad (b := b) (z := l.flatMap stepW ++ r) ⟨c, ?_, hn⟩
    rw [chunk_steps hl]
    exact List.mem_append_right _ hc
theorem sg_x : sgnO "x" = none := by decide +kernel
theorem RowR.bad_x {d : PyData} (h : RowR d) : rowF (rowW d ++ [("x" : Str)]) = none := h.ext (by simp) fun gs g hg => by
  have e : [("x" : Str)].foldl orS (gs, g) = (gs, g ++ [("x" : Str)]) := by
    show orS (gs, g) "x" = _
    unfold orS
    rw [if_neg (by decide +kernel)]
  rw [e]
  refine ⟨g ++ [("x" : Str)], by simp, ?_⟩
  rcases hg with rfl | ⟨y, hy, rfl⟩
  · exact way_head (b := "x") (by decide +kernel)
  · refine way_ext hy ⟨["x"], ?_, ?_⟩
    · rw [chunk_cons]
      exact List.mem_cons.mpr (.inl (by unfold stpN; split <;> rfl))
    · rw [chD_cons sg_x]
      rfl
theorem RowR.bad_or {d : PyData} (h : RowR d) : rowF (rowW d ++ [("or" : Str)]) = none := h.ext (by simp) fun gs g hg => by
  have e : [("or" : Str)].foldl orS (gs, g) = (gs ++ [g], []) := by
    show orS (gs, g) "or" = _
    unfold orS
    rw [if_pos rfl]
  rw [e]
  exact ⟨[], by simp, by unfold wayF; rw [if_pos rfl]⟩
theorem RowR.bad_mid {d : PyData} (h : RowR d) {y : Str} (hy : y = "or" ∨ y = "front") : rowF (rowW d ++ ([y, "middle", "go", "1"] : List Str)) = none := h.ext (by simp) fun gs g hg => by
  have st : ∀ (gs : List (List Str)) (g : List Str), ([("middle" : Str), "go", "1"] : List Str).foldl orS (gs, g) = (gs, g ++ ([("middle" : Str), "go", "1"] : List Str)) := fun gs g => by
    have := or_run (g := ([("middle" : Str), "go", "1"] : List Str)) (by decide +kernel) [] (gs, g)
    rw [List.append_nil] at this
    exact this
  rcases hy with rfl | rfl
  · have e : (([("or" : Str), "middle", "go", "1"] : List Str)).foldl orS (gs, g) = (gs ++ [g], ([("middle" : Str), "go", "1"] : List Str)) := by
      rw [List.foldl_cons]
      have : orS (gs, g) "or" = (gs ++ [g], []) := by
        unfold orS
        rw [if_pos rfl]
      rw [this, st]
      rfl
    rw [e]
    exact ⟨_, List.mem_append_right _ (List.mem_singleton.mpr rfl), way_head (by decide +kernel)⟩
  · have e : (([("front" : Str), "middle", "go", "1"] : List Str)).foldl orS (gs, g) = (gs, g ++ ([("front" : Str), "middle", "go", "1"] : List Str)) := by
      have := or_run (g := ([("front" : Str), "middle", "go", "1"] : List Str)) (by decide +kernel) [] (gs, g)
      rw [List.append_nil] at this
      exact this
    rw [e]
    refine ⟨_, List.mem_append_right _ (List.mem_singleton.mpr rfl), ?_⟩
    have hc : ([("front" : Str), "middle", "go"] : List Str) ∈ chunkF ([("front" : Str), "middle", "go", "1"] : List Str) := by
      rw [chunk_cons, show stpN "front" = 3 by decide +kernel]
      exact List.mem_cons_self
    rcases hg with rfl | ⟨z, hz, rfl⟩
    · refine way_bad (b := "front") (z := ([("middle" : Str), "go", "1"] : List Str)) ⟨([("middle" : Str), "go", "1"] : List Str), ?_, by decide +kernel⟩
      rw [chunk_cons, show stpN "middle" = 3 by decide +kernel]
      exact List.mem_cons_self
    · exact way_ext hz ⟨_, hc, by decide +kernel⟩
theorem RowR.bad_fin {d : PyData} (h : RowR d) : rowF (("fin" : Str) :: (rowW d).drop 1) = none := rowF_other (show ("fin" : Str) ∉ _ by decide +kernel)
/-! the first line -/
def headW (a b : Nat) : List Str := ["code", numZ (a : Nat), numZ (b : Nat)]
theorem head_rp {a b : Nat} {w' : Str} (hw : sgnO w' = none) {ws : List Str} (r : Rp w' (headW a b) ws) : headF ws = none := by
  unfold headF
  rw [if_neg]
  rintro ⟨_, _, h⟩
  have r : Rp w' (("code" : Str) :: [numZ (a : Nat), numZ (b : Nat)]) ws := r
  cases r with
  | here _ n _ hs => rw [sg_code] at hs; cases hs
  | there _ r2 =>
    have := List.all_eq_true.mp h w' r2.mem.1
    unfold plainB at this
    rw [hw] at this
    cases this
theorem head_ext {a b : Nat} {r : List Str} (hr : r ≠ []) : headF (headW a b ++ r) = none := by
  have lr : 0 < r.length := List.length_pos_iff.mpr hr
  unfold headF
  rw [if_neg]
  rintro ⟨h, _⟩
  rw [List.length_append] at h
  have : (headW a b).length = 3 := rfl
  omega
theorem head_fin {a b : Nat} : headF (("fin" : Str) :: (headW a b).drop 1) = none := by
  unfold headF
  rw [if_neg]
  rintro ⟨_, h, _⟩
  exact absurd h (by show ¬ ("fin" : Str) = "code"; decide +kernel)
theorem head_ok {a b : Nat} (h1 : a ≤ 10 ^ 30) (h2 : b ≤ 10 ^ 30) : headF (headW a b) = some ((a : Int), (b : Int)) := by
  have e1 : sgnO (numZ (a : Nat)) = some (a : Int) := sgn_numZ (by have := le31 h1; omega)
  have e2 : sgnO (numZ (b : Nat)) = some (b : Int) := sgn_numZ (by have := le31 h2; omega)
  unfold headF
  rw [if_pos]
  · show some ((sgnO (numZ (a : Nat))).getD 0, (sgnO (numZ (b : Nat))).getD 0) = _
    rw [e1, e2]
    rfl
  · refine ⟨rfl, rfl, ?_⟩
    show (plainB (numZ (a : Nat)) && (plainB (numZ (b : Nat)) && true)) = true
    unfold plainB
    rw [e1, e2]
    show (decide ((0 : Int) ≤ a) && (decide ((0 : Int) ≤ b) && true)) = true
    rw [decide_eq_true (by omega), decide_eq_true (by omega)]
    rfl
theorem head_words {a b : Nat} (h1 : a ≤ 10 ^ 30) (h2 : b ≤ 10 ^ 30) : ∀ w ∈ headW a b, WOk w ∧ bigN w = false := by
  intro w hw
  have sc : ∀ e ∈ ([.str "code", .int (a : Nat), .int (b : Nat)] : List PyData), ScR e := sc_cons (.lit (by simp)) (sc_cons (nat30 h1) (sc_cons (nat30 h2) sc_nil))
  have hw : w ∈ ([.str "code", .int (a : Nat), .int (b : Nat)] : List PyData).map wz := hw
  obtain ⟨e, he, rfl⟩ := List.mem_map.mp hw
  exact ⟨(sc e he).wok, (sc e he).big⟩

end
end K35
set_option maxRecDepth 100000
set_option maxHeartbeats 4000000
namespace K35
open PySem PySem.Spec PyProof.Rows L2 L3
local macro_rules | `(tactic| walk_at "s1") => `(tactic| first
  | with_reducible refine r_seq ?_
  | with_reducible refine r_asgN ?_
  | with_reducible refine r_ret ?_
  | with_reducible refine r_next ?_
  | ((with_reducible refine' r_var ?hv ?_); (case hv => exact rfl))
  | with_reducible refine r_c ?_
  | with_reducible refine r_op ?_
  | with_reducible refine r_cons ?_
  | with_reducible refine r_nil ?_
  | with_reducible refine r_plusI ?_
  | with_reducible refine r_I0 ?_
  | with_reducible refine r_test ?_
  | with_reducible refine r_bl ?_
  | with_reducible refine r_ifS ?_
  | with_reducible refine r_cb ?_
  | with_reducible refine r_callS ?_
  | with_reducible refine r_and ?_
  | with_reducible refine r_or ?_
  | with_reducible refine r_not ?_
  | with_reducible refine r_B ?_
  | ((with_reducible refine' r_aug ?hv ?_); (case hv => exact rfl))
  | with_reducible refine r_augS ?_
  | with_reducible refine r_ipI ?_
  | with_reducible refine r_asg ?_
  | with_reducible refine r_sub ?_
  | with_reducible refine r_brk ?_
  | with_reducible refine r_isN1 ?_
  | with_reducible refine r_notN1 ?_
  | with_reducible refine r_intI ?_
  | with_reducible refine r_abs ?_
  | with_reducible refine r_min ?_
  | with_reducible refine r_max ?_
  | ((with_reducible refine' r_mod ?hz ?_); (case hz => omega))
  | ((with_reducible refine' r_pow ?hz ?_); (case hz => exact ⟨by decide, by decide, by decide⟩))
  | ((with_reducible refine' r_rg1 ?hz ?_); (case hz => omega))
  | ((with_reducible refine' r_rg2 ?hz ?_); (case hz => omega))
  | ((with_reducible refine' r_newL ?hz ?_); (case hz => exact Nat.le_of_ble_eq_true rfl))
  | ((with_reducible refine' r_newT ?hz ?_); (case hz => exact Nat.le_of_ble_eq_true rfl))
  | with_reducible refine r_for ?_
  | with_reducible refine r_lc ?_
  | with_reducible refine r_iR1 ?_
  | with_reducible refine r_iR2 ?_
  | with_reducible refine r_iL ?_
  | with_reducible refine r_iT ?_
  | with_reducible refine r_gname ?_
  | with_reducible refine r_gcons ?_
  | with_reducible refine r_gnil ?_
  | with_reducible refine r_yes ?_
  | with_reducible refine r_mkO ?_
  | with_reducible refine r_cont ?_
  | with_reducible refine r_drop ?_
  | with_reducible refine r_retN ?_
  | with_reducible refine r_ifC ?_
  | with_reducible refine r_ifI ?_
  | with_reducible refine r_if ?_
  | with_reducible refine r_un ?_
  | with_reducible refine r_neg ?_
  | with_reducible refine r_andV ?_
  | with_reducible refine r_orV ?_
  | with_reducible refine r_notV ?_
  | with_reducible refine r_tup ?_
  | with_reducible refine r_lst ?_
  | with_reducible refine r_bm ?_
  | with_reducible refine r_bm0 ?_
  | with_reducible refine r_sl ?_
  | with_reducible refine r_chain ?_
  | with_reducible refine r_listDn ?_
  | with_reducible refine r_listRg2 ?_
  | with_reducible refine r_listRg1 ?_
  | with_reducible refine r_revL ?_
  | with_reducible refine r_noPart ?_
  | with_reducible refine r_meth ?_
  | with_reducible refine r_methE ?_
  | with_reducible refine r_js ?_
  | with_reducible refine r_jsC ?_
  | with_reducible refine r_jsN ?_
  | with_reducible refine r_fmt ?_
  | with_reducible refine r_fld ?_
  | with_reducible refine r_sfld ?_
  | with_reducible refine r_make ?_
  | with_reducible refine r_m1 ?_
  | with_reducible refine r_m1s ?_
  | with_reducible refine r_iS ?_
  | with_reducible refine r_iE ?_
  | with_reducible refine r_si ?_
  | with_reducible refine r_strS ?_
  | with_reducible refine r_dgt ?_
  | with_reducible refine r_din ?_
  | with_reducible refine r_dnin ?_
  | with_reducible refine r_dput ?_
  | with_reducible refine r_dnew ?_
  | with_reducible refine r_disp1 ?_
  | with_reducible refine r_lenSet ?_
  | with_reducible refine r_get2 ?_
  | with_reducible refine r_get1 ?_
  | with_reducible refine r_daug ?_
  | with_reducible refine r_iR3 ?_
  | with_reducible refine r_prC ?_
  | with_reducible refine r_prN ?_
  | with_reducible refine r_part ?_
  | with_reducible refine r_int ?_
  | ((with_reducible refine' r_sameS ?hs ?_); (case hs => exact rfl))
  | ((with_reducible refine' r_otherS ?hs ?_); (case hs => exact rfl))
  | with_reducible refine ite_t ?_
  | with_reducible refine ite_f ?_
  | with_reducible refine ite_nt ?_
  | with_reducible refine ite_nf ?_)
local macro_rules | `(tactic| walk_at "st") => `(tactic| repeat (walk_at "s1"))
local macro_rules | `(tactic| walk_at "su") => `(tactic| first
  | with_reducible refine r_seq ?_
  | with_reducible refine r_asgN ?_
  | with_reducible refine r_ret ?_
  | with_reducible refine r_next ?_
  | ((with_reducible refine' r_var ?hv ?_); (case hv => exact rfl))
  | with_reducible refine r_c ?_
  | with_reducible refine r_op ?_
  | with_reducible refine r_cons ?_
  | with_reducible refine r_nil ?_
  | with_reducible refine r_plusI ?_
  | with_reducible refine r_I0 ?_
  | with_reducible refine r_test ?_
  | with_reducible refine r_bl ?_
  | with_reducible refine r_cb ?_
  | with_reducible refine r_callS ?_
  | with_reducible refine r_and ?_
  | with_reducible refine r_or ?_
  | with_reducible refine r_not ?_
  | with_reducible refine r_B ?_
  | ((with_reducible refine' r_aug ?hv ?_); (case hv => exact rfl))
  | with_reducible refine r_augS ?_
  | with_reducible refine r_ipI ?_
  | with_reducible refine r_asg ?_
  | with_reducible refine r_sub ?_
  | with_reducible refine r_brk ?_
  | with_reducible refine r_isN1 ?_
  | with_reducible refine r_notN1 ?_
  | with_reducible refine r_intI ?_
  | with_reducible refine r_abs ?_
  | with_reducible refine r_min ?_
  | with_reducible refine r_max ?_
  | ((with_reducible refine' r_mod ?hz ?_); (case hz => omega))
  | ((with_reducible refine' r_pow ?hz ?_); (case hz => exact ⟨by decide, by decide, by decide⟩))
  | ((with_reducible refine' r_rg1 ?hz ?_); (case hz => omega))
  | ((with_reducible refine' r_rg2 ?hz ?_); (case hz => omega))
  | ((with_reducible refine' r_newL ?hz ?_); (case hz => exact Nat.le_of_ble_eq_true rfl))
  | ((with_reducible refine' r_newT ?hz ?_); (case hz => exact Nat.le_of_ble_eq_true rfl))
  | with_reducible refine r_for ?_
  | with_reducible refine r_lc ?_
  | with_reducible refine r_iR1 ?_
  | with_reducible refine r_iR2 ?_
  | with_reducible refine r_iL ?_
  | with_reducible refine r_iT ?_
  | with_reducible refine r_gname ?_
  | with_reducible refine r_gcons ?_
  | with_reducible refine r_gnil ?_
  | with_reducible refine r_yes ?_
  | with_reducible refine r_mkO ?_
  | with_reducible refine r_cont ?_
  | with_reducible refine r_drop ?_
  | with_reducible refine r_retN ?_
  | with_reducible refine r_ifC ?_
  | with_reducible refine r_ifI ?_
  | with_reducible refine r_if ?_
  | with_reducible refine r_un ?_
  | with_reducible refine r_neg ?_
  | with_reducible refine r_andV ?_
  | with_reducible refine r_orV ?_
  | with_reducible refine r_notV ?_
  | with_reducible refine r_tup ?_
  | with_reducible refine r_lst ?_
  | with_reducible refine r_bm ?_
  | with_reducible refine r_bm0 ?_
  | with_reducible refine r_sl ?_
  | with_reducible refine r_chain ?_
  | with_reducible refine r_listDn ?_
  | with_reducible refine r_listRg2 ?_
  | with_reducible refine r_listRg1 ?_
  | with_reducible refine r_revL ?_
  | with_reducible refine r_noPart ?_
  | with_reducible refine r_meth ?_
  | with_reducible refine r_methE ?_
  | with_reducible refine r_js ?_
  | with_reducible refine r_jsC ?_
  | with_reducible refine r_jsN ?_
  | with_reducible refine r_fmt ?_
  | with_reducible refine r_fld ?_
  | with_reducible refine r_sfld ?_
  | with_reducible refine r_make ?_
  | with_reducible refine r_m1 ?_
  | with_reducible refine r_m1s ?_
  | with_reducible refine r_iS ?_
  | with_reducible refine r_iE ?_
  | with_reducible refine r_si ?_
  | with_reducible refine r_strS ?_
  | with_reducible refine r_dgt ?_
  | with_reducible refine r_din ?_
  | with_reducible refine r_dnin ?_
  | with_reducible refine r_dput ?_
  | with_reducible refine r_dnew ?_
  | with_reducible refine r_disp1 ?_
  | with_reducible refine r_lenSet ?_
  | with_reducible refine r_get2 ?_
  | with_reducible refine r_get1 ?_
  | with_reducible refine r_daug ?_
  | with_reducible refine r_iR3 ?_
  | with_reducible refine r_prC ?_
  | with_reducible refine r_prN ?_
  | with_reducible refine r_part ?_
  | with_reducible refine r_int ?_
  | ((with_reducible refine' r_sameS ?hs ?_); (case hs => exact rfl))
  | ((with_reducible refine' r_otherS ?hs ?_); (case hs => exact rfl))
  | with_reducible refine ite_t ?_
  | with_reducible refine ite_f ?_
  | with_reducible refine ite_nt ?_
  | with_reducible refine ite_nf ?_)
local macro_rules | `(tactic| walk_at "sv") => `(tactic| repeat (walk_at "su"))

section
variable {P : Program} {w : World} {K : PySem.W.Frag} {mg : Str → Option Value} {base : Heap}

/-! ### draws -/
theorem sc__law_source : FnScope ["script", "at", "cell", "size", "small", "one"] ["script", "at"] (defScope s__law_source) := ⟨rfl, rfl, rfl, by decide +kernel, rfl, by decide +kernel, by decide +kernel⟩
theorem ok_law_source (T : Txt w K mg) : CalG P w K mg base 2 "_law_source" ["script", "at"] (spSource K) := by
  refine calG_of T.g__law_source T.d__law_source sc__law_source (fun _ _ _ _ _ _ _ us hl => match us, hl with | [_, _], _ => rfl) (fun vs H Q E h => by obtain ⟨c, k, n, rfl, _⟩ := h; rfl) (fun cdv A outer s H vs Q E hr h => ?_)
  have nd := sc__law_source.nd
  have hu := hu64 hr
  obtain ⟨a, ns, t, rfl, ha, hn, ht, k⟩ := h
  refine ⟨_, (C8.pss_cut (ps_set (i := 2) nd rfl (Or.inl rfl) (pe_ifExp (pt_cmpR op_lt (pv 1) (pe_callB (lenK (K := K)) (by rfl) T.f_len boot_len (pa_cons (pv 0) pa_nil)) (nomark _)) (pe_callTy cr_int (by rfl) T.f_int (by decide +kernel) (pa_cons (pe_ix (ixK (K := K)) (pv 0) (pv 1) (fun _ _ => rfl)) pa_nil)) (pe_op (plusK (K := K)) (pe_op op_timesB pe_int (pe_callB (sumK (K := K) rfl) (by rfl) T.f_sum (by decide +kernel) (pa_cons (pe_lc (own := [("one", 5)]) rfl nd (piL (K := K) (pe_slice (slK (K := K)) (pv 0) po_none (po_some pe_int))) (blkOk_by (N := ["script", "at", "cell", "size", "small", "one"]) (sc := defScope s__law_source) (by decide +kernel)) (fun _ _ _ _ _ => (pg_name (i := 5) nd rfl (Or.inl rfl))) (fun _ _ _ _ _ => pts_nil) (fun _ _ _ _ _ => (pe_op op_mod (pe_callTy cr_int (by rfl) T.f_int (by decide +kernel) (pa_cons (pv 5) pa_nil)) pe_int))) pa_nil))) pe_int)))
        (C8.pss_cut (ps_set (i := 3) nd rfl (Or.inl rfl) (pe_op op_mod (pe_callB cr_abs (by rfl) T.f_abs (by decide +kernel) (pa_cons (pv 2) pa_nil)) (pe_op op_timesB (pe_op op_pow pe_int pe_int) (pe_op op_pow pe_int pe_int))))
        (C8.pss_cut (ps_set (i := 4) nd rfl (Or.inl rfl) (pe_op op_mod (pe_callTy cr_int (by rfl) T.f_int (by decide +kernel) (pa_cons (pe_op (plusK (K := K)) (pe_op (plusK (K := K)) (pe_op (plusK (K := K)) (pe_op op_timesB pe_int (pv 3)) (pe_ifExp (pt_cmpR op_lt (pv 2) pe_int (nomark _)) pe_int pe_int)) (pe_op op_timesB (pv 1) pe_int)) pe_int) pa_nil)) pe_int))
        (pss_one (ps_ret (pe_lst (pa_cons (pe_ifExp (pt_cmpR op_ge (pv 3) (pe_op op_pow pe_int pe_int) (nomark _)) (pv 3) pe_int) (pa_cons (pe_op op_mod (pe_callTy cr_int (by rfl) T.f_int (by decide +kernel) (pa_cons (pe_op op_timesB (pe_op (plusK (K := K)) (pv 4) pe_int) (pe_op (plusK (K := K)) (pv 4) pe_int)) pa_nil)) pe_int) (pa_cons (pv 1) pa_nil))))))))), ?_⟩
  refine r_cut (fun σ' H' => ∃ cell : Int, σ' = [some (.ref a), some (.int t), some (.int cell), none, none, none] ∧ Ext H H') ?_ ?_
  · walk_at "st"
    refine r_lenL ha (by rw [List.length_map]) ?_
    walk_at "st"
    refine ite_d (fun c => ?_) (fun c => ?_)
    · obtain ⟨z, hz⟩ : ∃ z, ns[t]? = some z := ⟨ns[t]'(by omega), by simp⟩
      walk_at "st"
      refine r_atL ha (atI_nat (j := t) (v := .int z) (by rw [List.getElem?_map, hz]; rfl)) ?_
      walk_at "st"
      exact ⟨z, rfl, Ext.rfl⟩
    · walk_at "st"
      refine r_slL ha (fun l H1 hl e1 h1 => ?_)
      have hc : cutV (ns.map V.int) none (some 6) = (ns.take 6).map V.int := by rw [List.map_take]; exact cut_to _ 6
      rw [hc] at h1
      refine r_li (sqL h1) ?_
      intro Dl hD
      refine lcW_list (xs := (ns.take 6).map V.int) (LcP H1 Dl fun i => .int ((ns.take 6).getD i 0 % 999979)) (.start hD) (fun i H' _ p => p.e.l (sqL h1)) ?_ ?_
      · intro i x H' hx p
        obtain ⟨hi, rfl⟩ := ints_get hx
        have hl : (ns.take 6).length ≤ 63 := by rw [List.length_take]; omega
        walk_at "st"
        refine r_lcW rfl ?_
        walk_at "st"
        exact p.push hD (by omega) Ext.rfl rfl
      · intro H' p
        have hd := p.d
        rw [List.length_map, range_ints (ns.take 6) (fun z => z % 999979)] at hd
        walk_at "st"
        refine r_sum (sqL hd) ?_
        refine r_timesB (cmL (by decide) (by decide)) ?_
        walk_at "st"
        exact ⟨_, rfl, e1.trans p.e⟩
  rintro σ' H1 ⟨cell, rfl, e1⟩
  refine r_cut (fun σ' H' => ∃ size : Int, σ' = [some (.ref a), some (.int t), some (.int cell), some (.int size), none, none] ∧ Ext H H') ?_ ?_
  · walk_at "st"
    refine r_timesB (.inl (wide_mul (a := 250) (b := 250) bd128 bd128 (by decide) (by decide) (by decide))) ?_
    refine r_mod pos128 ?_
    exact ⟨_, rfl, e1⟩
  rintro σ' H2 ⟨size, rfl, e2⟩
  refine r_cut (fun σ' H' => ∃ small : Int, σ' = [some (.ref a), some (.int t), some (.int cell), some (.int size), some (.int small), none] ∧ Ext H H' ∧ 0 ≤ small ∧ small < 2147483629) ?_ ?_
  · walk_at "st"
    refine r_timesB (cmL (by decide) (by decide)) ?_
    walk_at "st"
    refine r_timesB (cmR (by decide) (by decide)) ?_
    walk_at "st"
    exact ⟨_, rfl, e2, bd31 _⟩
  rintro σ' H3 ⟨small, rfl, e3, s0, s1⟩
  walk_at "st"
  refine ite_d (fun c => ?_) (fun c => ?_)
  all_goals
    walk_at "st"
    refine r_timesB (cmR (by omega) (by omega)) ?_
    walk_at "st"
    intro p H4 hp e4 h4
    exact k p H4 (e3.none hp) (e3.trans e4) ⟨_, _, _, h4⟩

theorem sc__law_pick : FnScope ["source", "many", "found"] ["source", "many"] (defScope s__law_pick) := ⟨rfl, rfl, rfl, by decide +kernel, rfl, by decide +kernel, by decide +kernel⟩
theorem ok_law_pick (T : Txt w K mg) : CalG P w K mg base 2 "_law_pick" ["source", "many"] spPick := by
  refine calG_of T.g__law_pick T.d__law_pick sc__law_pick (fun _ _ _ _ _ _ _ us hl => match us, hl with | [_, _], _ => rfl) (fun vs H Q E h => by obtain ⟨c, k, rfl, _⟩ := h; rfl) (fun cdv A outer s H vs Q E hr h => ?_)
  have nd := sc__law_pick.nd
  have hu := hu64 hr
  obtain ⟨p, m, rfl, ⟨a, b, c, hp⟩, m0, m1, k⟩ := h
  refine ⟨_, (pss_cons (ps_if (pt_cmpR op_gt (pe_ix (ixK (K := K)) (pv 0) pe_int (fun _ _ => rfl)) pe_int (nomark _)) (pss_cons (ps_set (i := 2) nd rfl (Or.inl rfl) (pe_op op_mod (pe_callTy cr_int (by rfl) T.f_int (by decide +kernel) (pa_cons (pe_ix (ixK (K := K)) (pv 0) pe_int (fun _ _ => rfl)) pa_nil)) (pv 1)))
        (pss_cons (ps_asg (pe_op op_fdivW (pe_ix (ixK (K := K)) (pv 0) pe_int (fun _ _ => rfl)) (pv 1)) (pg_sub (pv 0) pe_int set_list))
        (pss_one (ps_ret (pv 2))))) pss_nil)
        (pss_cons (ps_augS (pv 0) pe_int (getLK (K := K)) pe_int ip_add set_list)
        (pss_cons (ps_asg (pe_op op_mod (pe_callTy cr_int (by rfl) T.f_int (by decide +kernel) (pa_cons (pe_op (plusK (K := K)) (pe_op op_timesB (pe_ix (ixK (K := K)) (pv 0) pe_int (fun _ _ => rfl)) pe_int) (pe_op op_timesB (pe_ix (ixK (K := K)) (pv 0) pe_int (fun _ _ => rfl)) pe_int)) pa_nil)) pe_int) (pg_sub (pv 0) pe_int set_list))
        (pss_one (ps_ret (pe_op op_mod (pe_op op_fdivW (pe_op op_mod (pe_callTy cr_int (by rfl) T.f_int (by decide +kernel) (pa_cons (pe_op (plusK (K := K)) (pe_op op_timesB (pe_ix (ixK (K := K)) (pv 0) pe_int (fun _ _ => rfl)) pe_int) (pe_op op_timesB (pe_ix (ixK (K := K)) (pv 0) pe_int (fun _ _ => rfl)) pe_int)) pa_nil)) pe_int) pe_int) (pv 1))))))), ?_⟩
  walk_at "st"
  refine r_atL (sqL hp) (atI_nat (j := 0) rfl) ?_
  walk_at "st"
  refine ite_d (fun c0 => ?_) (fun c0 => ?_)
  · walk_at "st"
    refine r_atL (sqL hp) (atI_nat (j := 0) rfl) ?_
    walk_at "st"
    refine r_atL (sqL hp) (atI_nat (j := 0) rfl) ?_
    walk_at "st"
    refine r_div (cdW m0 m1) ?_
    walk_at "st"
    refine r_setL (j := 0) hp rfl (by simp) (fun H1 h1 m1 => ?_)
    walk_at "st"
    exact k _ H1 (Int.emod_nonneg _ (by omega)) (Int.emod_lt_of_pos _ m0) ⟨_, _, _, h1⟩ m1
  · walk_at "st"
    refine r_getL (sqL hp) (by decide) rfl ?_
    walk_at "st"
    refine r_setL (j := 2) hp rfl (by simp) (fun H1 h1 n1 => ?_)
    walk_at "st"
    refine r_atL (sqL h1) (atI_nat (j := 1) rfl) ?_
    walk_at "st"
    refine r_timesB (cmR (by decide) (by decide)) ?_
    walk_at "st"
    refine r_atL (sqL h1) (atI_nat (j := 2) rfl) ?_
    walk_at "st"
    refine r_timesB (cmR (by decide) (by decide)) ?_
    walk_at "st"
    refine r_setL (j := 1) h1 rfl (by simp) (fun H2 h2 n2 => ?_)
    walk_at "st"
    refine r_atL (sqL h2) (atI_nat (j := 1) rfl) ?_
    walk_at "st"
    refine r_timesB (cmR (by decide) (by decide)) ?_
    walk_at "st"
    refine r_atL (sqL h2) (atI_nat (j := 2) rfl) ?_
    walk_at "st"
    refine r_timesB (cmR (by decide) (by decide)) ?_
    walk_at "st"
    refine r_div (cdW (by decide) (by decide)) ?_
    walk_at "st"
    exact k _ H2 (Int.emod_nonneg _ (by omega)) (Int.emod_lt_of_pos _ m0) ⟨_, _, _, h2⟩ fun b hb => (n2 b hb).trans (n1 b hb)

theorem sc__law_shuffled : FnScope ["source", "things", "left", "found"] ["source", "things"] (defScope s__law_shuffled) := ⟨rfl, rfl, rfl, by decide +kernel, rfl, by decide +kernel, by decide +kernel⟩
theorem ok_law_shuffled (T : Txt w K mg) : CalG P w K mg base 3 "_law_shuffled" ["source", "things"] (spShuf K) := by
  have c__law_pick := ok_law_pick (P := P) (base := base) T
  refine calG_of T.g__law_shuffled T.d__law_shuffled sc__law_shuffled (fun _ _ _ _ _ _ _ us hl => match us, hl with | [_, _], _ => rfl) (fun vs H Q E h => by obtain ⟨c, k, xs, rfl, _⟩ := h; rfl) (fun cdv A outer s H vs Q E hr h => ?_)
  have nd := sc__law_shuffled.nd
  have hu := hu64 hr
  obtain ⟨p, t, xs, rfl, hs, ht, hl, k⟩ := h
  refine ⟨_, (pss_cons (ps_set (i := 2) nd rfl (Or.inl rfl) (pe_callTy (listK (K := K)) (by rfl) T.f_list (by decide +kernel) (pa_cons (pv 1) pa_nil)))
        (pss_cons (ps_set (i := 3) nd rfl (Or.inl rfl) (pe_lst pa_nil))
        (pss_cons (ps_while (passes_of rfl) (pt_cmpR op_gt (pe_callB (lenK (K := K)) (by rfl) T.f_len boot_len (pa_cons (pv 2) pa_nil)) pe_int (nomark _)) (pss_one (ps_expr (peBM (K := K) (pe_bm PySem.F.plainAttrs_list PySem.F.slot_list_append PySem.F.type_list_append mt_append (pv 3) (pa_cons (peBM (K := K) (pe_bm PySem.F.plainAttrs_list PySem.F.slot_list_pop PySem.F.type_list_pop mt_popAt (pv 2) (pa_cons (pe_cal c__law_pick hr (by omega) (fun σ => L2N.passAt (L2N.takes_of rfl rfl rfl rfl) σ) (pa_cons (pv 0) (pa_cons (pe_callB (lenK (K := K)) (by rfl) T.f_len boot_len (pa_cons (pv 2) pa_nil)) pa_nil))) pa_nil))) pa_nil))))))
        (pss_one (ps_ret (pv 3)))))), ?_⟩
  walk_at "st"
  refine r_listL ht (fun l H1 hl1 e1 h1 => ?_)
  walk_at "st"
  intro f H2 hf e2 h2
  walk_at "st"
  have hf0 := e1.none hf
  refine whileW (fun μ σ' H' => ∃ (left done : List V), σ' = [some (.ref p), some (.ref t), some (.ref l), some (.ref f)] ∧ But p H H' ∧ Src H' p ∧ H' l = some (.lst left) ∧ H' f = some (.lst done) ∧ (done ++ left).Perm xs ∧ μ = left.length) xs.length
    ⟨xs, [], rfl, ext_but (e1.trans e2), (hs.ext e1).ext e2, e2 _ _ h1, h2, .refl _, rfl⟩ ?_
  rintro μ σ' H' ⟨left, done, rfl, b, s', hl', hf', pm, rfl⟩
  have hlen : done.length + left.length = xs.length := by rw [← pm.length_eq, List.length_append]
  have npl : p ≠ l := src_ne hs hl1
  have npf : p ≠ f := src_ne hs hf0
  have nlf : l ≠ f := ne_of_none h1 hf
  walk_at "st"
  refine r_lenL (sqL hl') rfl ?_
  walk_at "st"
  refine ite_d (fun c => r_N ?_) (fun c => ?_)
  · walk_at "st"
    refine ⟨.inl ⟨rfl, _, sqL hf'⟩, ?_⟩
    walk_at "st"
    refine ⟨.inl ⟨rfl, _, sqL hl'⟩, ?_⟩
    walk_at "st"
    refine r_lenL (sqL hl') rfl ?_
    walk_at "st"
    refine ⟨p, _, rfl, s', c, by omega, fun r H3 r0 r1 s3 n3 => ?_⟩
    walk_at "st"
    have hr : r.toNat < left.length := by omega
    have el : left[r.toNat]? = some left[r.toNat] := by simp [hr]
    refine r_popAt (j := r.toNat) (stay n3 npl.symm hl') (by omega) (by omega) el (fun H4 h4 n4 => ?_)
    walk_at "st"
    refine r_app (stay n4 nlf.symm (stay n3 npf.symm hf')) (by omega) (fun H5 h5 n5 => ?_)
    have s5 : Src H5 p := by
      obtain ⟨x, y, z, e⟩ := s3
      exact ⟨x, y, z, stay n5 npf (stay n4 npl e)⟩
    refine ⟨_, ?_, left.eraseIdx r.toNat, done ++ [left[r.toNat]], rfl, ((b.trans (.of n3)).mut hl1 n4).mut hf0 n5, s5, stay n5 nlf h4, h5, ?_, rfl⟩
    · rw [List.length_eraseIdx, if_pos hr]
      omega
    · rw [List.append_assoc]
      exact ((eraseIdx_perm el).append_left done).trans pm
  · walk_at "st"
    have e0 : left = [] := List.eq_nil_of_length_eq_zero (by omega)
    subst e0
    rw [List.append_nil] at pm
    exact k f H' done hf0 pm s' hf' b

theorem sc__law_same : FnScope ["answer", "due", "at", "key"] ["answer", "due"] (defScope s__law_same) := ⟨rfl, rfl, rfl, by decide +kernel, rfl, by decide +kernel, by decide +kernel⟩
theorem ok_law_same (T : Txt w K mg) : ∀ n, CalG P w K mg base (n + 2) "_law_same" ["answer", "due"] (spSame K n)
  | 0 => (calG_false T.g__law_same T.d__law_same (fun _ _ _ _ _ _ _ us hl => match us, hl with | [_, _], _ => rfl)).imp fun vs H Q E ⟨_, _, _, _, _, _, z, _⟩ => z.elim
  | n + 1 => by
    have c__law_same := ok_law_same T n
    refine calG_of T.g__law_same T.d__law_same sc__law_same (fun _ _ _ _ _ _ _ us hl => match us, hl with | [_, _], _ => rfl) (fun vs H Q E h => by obtain ⟨c, k, d, rfl, _⟩ := h; rfl) (fun cdv A outer s H vs Q E hr h => ?_)
    have nd := sc__law_same.nd
    have hu := hu64 hr
    obtain ⟨x, y, d, rfl, hx, hy, hd, k⟩ := h
    refine ⟨_, (pss_cons (ps_if (pt_val (pe_callB (isiTK (K := K)) (by rfl) T.f_isinstance (by decide +kernel) (pa_cons (pv 1) (pa_cons (pe_tup (pa_cons (pe_ty T.f_list) (pa_cons (pe_ty T.f_tuple) pa_nil))) pa_nil)))) (pss_cons (ps_if (PW.pt (pw_or (pt_not (pt_val (pe_callB (isiTK (K := K)) (by rfl) T.f_isinstance (by decide +kernel) (pa_cons (pv 0) (pa_cons (pe_tup (pa_cons (pe_ty T.f_list) (pa_cons (pe_ty T.f_tuple) pa_nil))) pa_nil))))) (pw_or (pt_cmpR (otherK (K := K) hu) (pe_callB (isiK (K := K)) (by rfl) T.f_isinstance (by decide +kernel) (pa_cons (pv 0) (pa_cons (pe_ty T.f_list) pa_nil))) (pe_callB (isiK (K := K)) (by rfl) T.f_isinstance (by decide +kernel) (pa_cons (pv 1) (pa_cons (pe_ty T.f_list) pa_nil))) (nomark _)) (pw_or1 (pt_cmpR (otherK (K := K) hu) (pe_callB (lenK (K := K)) (by rfl) T.f_len boot_len (pa_cons (pv 0) pa_nil)) (pe_callB (lenK (K := K)) (by rfl) T.f_len boot_len (pa_cons (pv 1) pa_nil)) (nomark _)))))) (pss_one (ps_ret pe_bl)) pss_nil)
        (pss_one (ps_ret (pe_callB (allK (K := K) rfl) (by rfl) T.f_all (by decide +kernel) (pa_cons (pe_lc (own := [("at", 2)]) rfl nd (pi_range1 (by rfl) T.f_range (pa_cons (pe_callB (lenK (K := K)) (by rfl) T.f_len boot_len (pa_cons (pv 1) pa_nil)) pa_nil)) (blkOk_by (N := ["answer", "due", "at", "key"]) (sc := defScope s__law_same) (by decide +kernel)) (fun _ _ _ _ _ => (pg_name (i := 2) nd rfl (Or.inl rfl))) (fun _ _ _ _ _ => pts_nil) (fun _ _ _ _ _ => (pe_cal c__law_same hr (by omega) passN (pa_cons (pe_ix (ixK (K := K)) (pv 0) (pv 2) (fun _ _ => rfl)) (pa_cons (pe_ix (ixK (K := K)) (pv 1) (pv 2) (fun _ _ => rfl)) pa_nil))))) pa_nil))))) pss_nil)
        (pss_cons (ps_if (pt_val (pe_callB (isiK (K := K)) (by rfl) T.f_isinstance (by decide +kernel) (pa_cons (pv 1) (pa_cons (pe_ty T.f_dict) pa_nil)))) pss_never pss_nil)
        (pss_cons (ps_if (PW.pt (pw_or (pt_cmpR op_isN1 (pv 1) pe_non (nomark _)) (pw_or1 (pt_cmpR op_isN1 (pv 0) pe_non (nomark _))))) (pss_one (ps_ret (pe_and (pe_cmpR op_isN1 (pv 1) pe_non (nomark _)) (pe_one (pe_cmpR op_isN1 (pv 0) pe_non (nomark _)))))) pss_nil)
        (pss_cons (ps_if (PW.pt (pw_or (pt_cmpR (otherK (K := K) hu) (pe_callB (isiK (K := K)) (by rfl) T.f_isinstance (by decide +kernel) (pa_cons (pv 1) (pa_cons (pe_ty T.f_bool) pa_nil))) (pe_callB (isiK (K := K)) (by rfl) T.f_isinstance (by decide +kernel) (pa_cons (pv 0) (pa_cons (pe_ty T.f_bool) pa_nil))) (nomark _)) (pw_or1 (pt_cmpR (otherK (K := K) hu) (pe_callB (isiK (K := K)) (by rfl) T.f_isinstance (by decide +kernel) (pa_cons (pv 1) (pa_cons (pe_ty T.f_str) pa_nil))) (pe_callB (isiK (K := K)) (by rfl) T.f_isinstance (by decide +kernel) (pa_cons (pv 0) (pa_cons (pe_ty T.f_str) pa_nil))) (nomark _))))) (pss_one (ps_ret pe_bl)) pss_nil)
        (pss_one (ps_ret (pe_and (pe_callB (isiTK (K := K)) (by rfl) T.f_isinstance (by decide +kernel) (pa_cons (pv 0) (pa_cons (pe_tup (pa_cons (pe_ty T.f_bool) (pa_cons (pe_ty T.f_int) (pa_cons (pe_ty T.f_str) pa_nil)))) pa_nil))) (pe_one (pe_cmpR (sameK (K := K) hu) (pv 0) (pv 1) (nomark _)))))))))), ?_⟩
    walk_at "st"
    intro t H1 ht e1 h1
    walk_at "st"
    refine r_isi2 (e1.dp d hy) h1 (by simp) (by simp) ?_
    walk_at "st"
    cases c : (isB (tyD d) "list" || isB (tyD d) "tuple") with
    | true =>
      walk_at "st"
      intro t2 H2 ht2 e2 h2
      have e12 := e1.trans e2
      walk_at "st"
      refine r_isi2 (e12.dp d hx) h2 (by simp) (by simp) ?_
      rw [c]
      walk_at "st"
      refine r_isi (b := "list") (e12.dp d hx) (by simp) ?_
      walk_at "st"
      refine r_isi (b := "list") (e12.dp d hy) (by simp) ?_
      walk_at "st"
      refine ite_n (fun z => absurd rfl z) (fun _ => ?_)
      obtain ⟨a, xs, rfl, ha, hxs⟩ := dp_seq (e12.dp d hx) c
      obtain ⟨b, ys, rfl, hb, hys⟩ := dp_seq (e12.dp d hy) c
      have lx := dps_len hxs
      have ly := dps_len hys
      walk_at "st"
      refine r_lenA ha (by rw [lx]) ?_
      walk_at "st"
      refine r_lenA hb (by rw [ly]) ?_
      walk_at "st"
      refine ite_n (fun z => absurd rfl z) (fun _ => ?_)
      walk_at "st"
      refine r_lenA hb (by rw [ly]) ?_
      have hsz := hd.1
      walk_at "st"
      intro Dl hD
      rw [Int.toNat_natCast]
      refine lcW_range (LcP H2 Dl fun _ => .bl true) (.start hD) ?_ ?_
      · intro i H3 hi p
        have hsz2 : i < 16777216 := by omega
        obtain ⟨x, ex, hx3⟩ := dps_get (i := i) hxs (List.getElem?_eq_getElem hi)
        obtain ⟨y, ey, hy3⟩ := dps_get (i := i) hys (List.getElem?_eq_getElem hi)
        walk_at "st"
        refine r_lcW rfl ?_
        walk_at "st"
        refine r_atA (p.e.sq ha) (by rw [Int.zero_add]; exact atI_nat ex) ?_
        walk_at "st"
        refine r_atA (p.e.sq hb) (by rw [Int.zero_add]; exact atI_nat ey) ?_
        walk_at "st"
        have hm : (itemsD d)[i] ∈ itemsD d := List.getElem_mem hi
        exact ⟨x, y, _, rfl, p.e.dp _ hx3, p.e.dp _ hy3, hd.2 _ hm, fun H4 e4 => p.pushB hD hsz2 e4 rfl⟩
      · intro H3 p
        have hd := p.d
        rw [map_bl] at hd
        walk_at "st"
        refine r_all (sqL hd) ?_
        rw [bools_all]
        exact k H3 (e12.trans p.e)
    | false =>
      walk_at "st"
      refine r_isi (e1.dp d hy) (by simp) ?_
      rw [dp_nodict hy]
      walk_at "st"
      have exy := dp_det hx hy c
      subst exy
      rcases dp_flat hx c with ⟨rfl, rfl⟩ | ⟨cb, nn, sc⟩
      · walk_at "st"
        refine ite_d (fun _ => ?_) (fun z => absurd rfl z)
        walk_at "st"
        refine ite_d (fun _ => ?_) (fun z => absurd rfl z)
        walk_at "st"
        exact k H1 e1
      · refine ite_d (fun z => absurd z nn) (fun _ => ?_)
        walk_at "st"
        refine ite_d (fun z => absurd z nn) (fun _ => ?_)
        walk_at "st"
        refine r_isi (e1.dp d hy) (by simp) ?_
        walk_at "st"
        refine r_isi (e1.dp d hy) (by simp) ?_
        walk_at "st"
        refine ite_n (fun z => absurd rfl z) (fun _ => ?_)
        walk_at "st"
        refine r_isi (e1.dp d hy) (by simp) ?_
        walk_at "st"
        refine r_isi (e1.dp d hy) (by simp) ?_
        walk_at "st"
        refine ite_n (fun z => absurd rfl z) (fun _ => ?_)
        walk_at "st"
        intro t2 H2 ht2 e2 h2
        walk_at "st"
        refine r_isi3 ((e1.trans e2).dp d hy) h2 (by simp) (by simp) (by simp) ?_
        rw [cb]
        walk_at "st"
        refine r_sameS sc ?_
        have e : decide (x = x) = true := decide_eq_true rfl
        rw [e]
        exact k H2 (e1.trans e2)

theorem sc__law_copied : FnScope ["thing", "one", "key"] ["thing"] (defScope s__law_copied) := ⟨rfl, rfl, rfl, by decide +kernel, rfl, by decide +kernel, by decide +kernel⟩
theorem ok_lcopied (T : Txt w K mg) : ∀ n, CalG P w K mg base (n + 2) "_law_copied" ["thing"] (spCopied K n)
  | 0 => (calG_false T.g__law_copied T.d__law_copied (fun _ _ _ _ _ _ _ us hl => match us, hl with | [_], _ => rfl)).imp fun vs H Q E ⟨_, _, _, _, z, _⟩ => z.elim
  | n + 1 => by
    have c__law_copied := ok_lcopied T n
    refine calG_of T.g__law_copied T.d__law_copied sc__law_copied (fun _ _ _ _ _ _ _ us hl => match us, hl with | [_], _ => rfl) (fun vs H Q E h => by obtain ⟨c, d, rfl, _⟩ := h; rfl) (fun cdv A outer s H vs Q E hr h => ?_)
    have nd := sc__law_copied.nd
    have hu := hu64 hr
    obtain ⟨x, d, rfl, hx, hd, k⟩ := h
    refine ⟨_, (pss_cons (ps_if (pt_val (pe_callB (isiK (K := K)) (by rfl) T.f_isinstance (by decide +kernel) (pa_cons (pv 0) (pa_cons (pe_ty T.f_list) pa_nil)))) (pss_one (ps_ret (pe_lc (own := [("one", 1)]) rfl nd (piL (K := K) (pv 0)) (blkOk_by (N := ["thing", "one", "key"]) (sc := defScope s__law_copied) (by decide +kernel)) (fun _ _ _ _ _ => (pg_name (i := 1) nd rfl (Or.inl rfl))) (fun _ _ _ _ _ => pts_nil) (fun _ _ _ _ _ => (pe_cal c__law_copied hr (by omega) passN (pa_cons (pv 1) pa_nil)))))) pss_nil)
        (pss_cons (ps_if (pt_val (pe_callB (isiK (K := K)) (by rfl) T.f_isinstance (by decide +kernel) (pa_cons (pv 0) (pa_cons (pe_ty T.f_tuple) pa_nil)))) (pss_one (ps_ret (pe_callTy (tupK (K := K)) (by rfl) T.f_tuple (by decide +kernel) (pa_cons (pe_lc (own := [("one", 1)]) rfl nd (piT (K := K) (pv 0)) (blkOk_by (N := ["thing", "one", "key"]) (sc := defScope s__law_copied) (by decide +kernel)) (fun _ _ _ _ _ => (pg_name (i := 1) nd rfl (Or.inl rfl))) (fun _ _ _ _ _ => pts_nil) (fun _ _ _ _ _ => (pe_cal c__law_copied hr (by omega) passN (pa_cons (pv 1) pa_nil)))) pa_nil)))) pss_nil)
        (pss_cons (ps_if (pt_val (pe_callB (isiK (K := K)) (by rfl) T.f_isinstance (by decide +kernel) (pa_cons (pv 0) (pa_cons (pe_ty T.f_dict) pa_nil)))) pss_never pss_nil)
        (pss_one (ps_ret (pv 0)))))), ?_⟩
    have hsz := hd.1
    have hsub := hd.2
    have flat : (itemsD d = []) → (Nw (fun a => H a = none) H x d) → Q x H := fun _ h => k x H .rfl h
    walk_at "st"
    refine r_isi (b := "list") hx (by simp) ?_
    cases hx with
    | lst h hs =>
      rename_i a xs ds
      rw [show isB (tyD (.list ds)) "list" = true by simp [isB, tyD]]
      walk_at "st"
      refine r_li h ?_
      intro D hD
      have hxl := dps_len hs
      refine lcW_list (Cops H D ds) ⟨.new hD, [], upd_same, rfl, by rw [List.take_zero]; exact .nil⟩ (fun i H' _ p => p.1.l h) ?_ ?_
      · intro i y H2 hy p
        have hi : i < ds.length := by rw [← hxl]; exact (List.getElem?_eq_some_iff.mp hy).1
        have ed : ds[i]? = some ds[i] := List.getElem?_eq_getElem hi
        obtain ⟨x', ex, hx'⟩ := dps_get hs ed
        rw [hy] at ex
        cases ex
        have hz : ds.length ≤ 100000 := hsz
        walk_at "st"
        refine r_lcW rfl ?_
        walk_at "st"
        exact ⟨y, ds[i], rfl, p.1.dp _ hx', hsub _ (List.getElem_mem hi), fun z H3 e3 c => p.push hD ed (by omega) e3 c⟩
      · rintro H2 ⟨e2, ys, hy, hyl, hys⟩
        rw [hxl, List.take_length] at hys
        refine k (.ref D) H2 e2 (.lst hD hy (hys.keep (fun a o s q => ⟨q, s.1⟩) _))
    | tup h hs =>
      rename_i a xs ds
      rw [show isB (tyD (.tuple ds)) "list" = false by simp [isB, tyD]]
      walk_at "st"
      refine r_isi (b := "tuple") (d := .tuple ds) (.tup h hs) (by simp) ?_
      rw [show isB (tyD (.tuple ds)) "tuple" = true by simp [isB, tyD]]
      walk_at "st"
      refine r_ti h ?_
      intro D hD
      have hxl := dps_len hs
      refine lcW_tup (Cops H D ds) ⟨.new hD, [], upd_same, rfl, by rw [List.take_zero]; exact .nil⟩ (fun i H' _ p => p.1.tu h) ?_ ?_
      · intro i y H2 hy p
        have hi : i < ds.length := by rw [← hxl]; exact (List.getElem?_eq_some_iff.mp hy).1
        have ed : ds[i]? = some ds[i] := List.getElem?_eq_getElem hi
        obtain ⟨x', ex, hx'⟩ := dps_get hs ed
        rw [hy] at ex
        cases ex
        have hz : ds.length ≤ 100000 := hsz
        walk_at "st"
        refine r_lcW rfl ?_
        walk_at "st"
        exact ⟨y, ds[i], rfl, p.1.dp _ hx', hsub _ (List.getElem_mem hi), fun z H3 e3 c => p.push hD ed (by omega) e3 c⟩
      · rintro H2 ⟨e2, ys, hy, hyl, hys⟩
        rw [hxl, List.take_length] at hys
        walk_at "st"
        refine ⟨D, ys, rfl, .inl ⟨sqL hy, fun l hl => ?_⟩⟩
        have e3 : Ext H2 (upd H2 l (.tup ys)) := .new hl
        refine k (.ref l) _ (e2.trans e3) (.tup (e2.none hl) upd_same (hys.keep (fun a o s q => ⟨e3 _ _ q, s.1⟩) _))
    | non =>
      rw [show isB (tyD .none) "list" = false by simp [isB, tyD]]
      walk_at "st"
      refine r_isi (b := "tuple") (d := .none) .non (by simp) ?_
      rw [show isB (tyD .none) "tuple" = false by simp [isB, tyD]]
      walk_at "st"
      refine r_isi (b := "dict") (d := .none) .non (by simp) ?_
      rw [show isB (tyD .none) "dict" = false by simp [isB, tyD]]
      walk_at "st"
      exact flat rfl (.non)
    | bl b =>
      rw [show isB (tyD (.bool b)) "list" = false by simp [isB, tyD]]
      walk_at "st"
      refine r_isi (b := "tuple") (d := .bool b) (.bl b) (by simp) ?_
      rw [show isB (tyD (.bool b)) "tuple" = false by simp [isB, tyD]]
      walk_at "st"
      refine r_isi (b := "dict") (d := (.bool b)) (.bl b) (by simp) ?_
      rw [show isB (tyD (.bool b)) "dict" = false by simp [isB, tyD]]
      walk_at "st"
      exact flat rfl (.bl b)
    | int b =>
      rw [show isB (tyD (.int b)) "list" = false by simp [isB, tyD]]
      walk_at "st"
      refine r_isi (b := "tuple") (d := .int b) (.int b) (by simp) ?_
      rw [show isB (tyD (.int b)) "tuple" = false by simp [isB, tyD]]
      walk_at "st"
      refine r_isi (b := "dict") (d := (.int b)) (.int b) (by simp) ?_
      rw [show isB (tyD (.int b)) "dict" = false by simp [isB, tyD]]
      walk_at "st"
      exact flat rfl (.int b)
    | str b =>
      rw [show isB (tyD (.str b)) "list" = false by simp [isB, tyD]]
      walk_at "st"
      refine r_isi (b := "tuple") (d := .str b) (.str b) (by simp) ?_
      rw [show isB (tyD (.str b)) "tuple" = false by simp [isB, tyD]]
      walk_at "st"
      refine r_isi (b := "dict") (d := (.str b)) (.str b) (by simp) ?_
      rw [show isB (tyD (.str b)) "dict" = false by simp [isB, tyD]]
      walk_at "st"
      exact flat rfl (.str b)

end
end K35
set_option maxRecDepth 100000
set_option maxHeartbeats 4000000
namespace K35
open PySem PySem.Spec PyProof.Rows L2 L3
local macro_rules | `(tactic| walk_at "s1") => `(tactic| first
  | with_reducible refine r_seq ?_
  | with_reducible refine r_asgN ?_
  | with_reducible refine r_ret ?_
  | with_reducible refine r_next ?_
  | ((with_reducible refine' r_var ?hv ?_); (case hv => exact rfl))
  | with_reducible refine r_c ?_
  | with_reducible refine r_op ?_
  | with_reducible refine r_cons ?_
  | with_reducible refine r_nil ?_
  | with_reducible refine r_plusI ?_
  | with_reducible refine r_I0 ?_
  | with_reducible refine r_test ?_
  | with_reducible refine r_bl ?_
  | with_reducible refine r_ifS ?_
  | with_reducible refine r_cb ?_
  | with_reducible refine r_callS ?_
  | with_reducible refine r_and ?_
  | with_reducible refine r_or ?_
  | with_reducible refine r_not ?_
  | with_reducible refine r_B ?_
  | ((with_reducible refine' r_aug ?hv ?_); (case hv => exact rfl))
  | with_reducible refine r_augS ?_
  | with_reducible refine r_ipI ?_
  | with_reducible refine r_asg ?_
  | with_reducible refine r_sub ?_
  | with_reducible refine r_brk ?_
  | with_reducible refine r_isN1 ?_
  | with_reducible refine r_notN1 ?_
  | with_reducible refine r_intI ?_
  | with_reducible refine r_abs ?_
  | with_reducible refine r_min ?_
  | with_reducible refine r_max ?_
  | ((with_reducible refine' r_mod ?hz ?_); (case hz => omega))
  | ((with_reducible refine' r_pow ?hz ?_); (case hz => exact ⟨by decide, by decide, by decide⟩))
  | ((with_reducible refine' r_rg1 ?hz ?_); (case hz => omega))
  | ((with_reducible refine' r_rg2 ?hz ?_); (case hz => omega))
  | ((with_reducible refine' r_newL ?hz ?_); (case hz => exact Nat.le_of_ble_eq_true rfl))
  | ((with_reducible refine' r_newT ?hz ?_); (case hz => exact Nat.le_of_ble_eq_true rfl))
  | with_reducible refine r_for ?_
  | with_reducible refine r_lc ?_
  | with_reducible refine r_iR1 ?_
  | with_reducible refine r_iR2 ?_
  | with_reducible refine r_iL ?_
  | with_reducible refine r_iT ?_
  | with_reducible refine r_gname ?_
  | with_reducible refine r_gcons ?_
  | with_reducible refine r_gnil ?_
  | with_reducible refine r_yes ?_
  | with_reducible refine r_mkO ?_
  | with_reducible refine r_cont ?_
  | with_reducible refine r_drop ?_
  | with_reducible refine r_retN ?_
  | with_reducible refine r_ifC ?_
  | with_reducible refine r_ifI ?_
  | with_reducible refine r_if ?_
  | with_reducible refine r_un ?_
  | with_reducible refine r_neg ?_
  | with_reducible refine r_andV ?_
  | with_reducible refine r_orV ?_
  | with_reducible refine r_notV ?_
  | with_reducible refine r_tup ?_
  | with_reducible refine r_lst ?_
  | with_reducible refine r_bm ?_
  | with_reducible refine r_bm0 ?_
  | with_reducible refine r_sl ?_
  | with_reducible refine r_chain ?_
  | with_reducible refine r_listDn ?_
  | with_reducible refine r_listRg2 ?_
  | with_reducible refine r_listRg1 ?_
  | with_reducible refine r_revL ?_
  | with_reducible refine r_noPart ?_
  | with_reducible refine r_meth ?_
  | with_reducible refine r_methE ?_
  | with_reducible refine r_js ?_
  | with_reducible refine r_jsC ?_
  | with_reducible refine r_jsN ?_
  | with_reducible refine r_fmt ?_
  | with_reducible refine r_fld ?_
  | with_reducible refine r_sfld ?_
  | with_reducible refine r_make ?_
  | with_reducible refine r_m1 ?_
  | with_reducible refine r_m1s ?_
  | with_reducible refine r_iS ?_
  | with_reducible refine r_iE ?_
  | with_reducible refine r_si ?_
  | with_reducible refine r_strS ?_
  | with_reducible refine r_dgt ?_
  | with_reducible refine r_din ?_
  | with_reducible refine r_dnin ?_
  | with_reducible refine r_dput ?_
  | with_reducible refine r_dnew ?_
  | with_reducible refine r_disp1 ?_
  | with_reducible refine r_lenSet ?_
  | with_reducible refine r_get2 ?_
  | with_reducible refine r_get1 ?_
  | with_reducible refine r_daug ?_
  | with_reducible refine r_iR3 ?_
  | with_reducible refine r_prC ?_
  | with_reducible refine r_prN ?_
  | with_reducible refine r_part ?_
  | with_reducible refine r_int ?_
  | ((with_reducible refine' r_sameS ?hs ?_); (case hs => exact rfl))
  | ((with_reducible refine' r_otherS ?hs ?_); (case hs => exact rfl))
  | with_reducible refine ite_t ?_
  | with_reducible refine ite_f ?_
  | with_reducible refine ite_nt ?_
  | with_reducible refine ite_nf ?_)
local macro_rules | `(tactic| walk_at "st") => `(tactic| repeat (walk_at "s1"))
local macro_rules | `(tactic| walk_at "su") => `(tactic| first
  | with_reducible refine r_seq ?_
  | with_reducible refine r_asgN ?_
  | with_reducible refine r_ret ?_
  | with_reducible refine r_next ?_
  | ((with_reducible refine' r_var ?hv ?_); (case hv => exact rfl))
  | with_reducible refine r_c ?_
  | with_reducible refine r_op ?_
  | with_reducible refine r_cons ?_
  | with_reducible refine r_nil ?_
  | with_reducible refine r_plusI ?_
  | with_reducible refine r_I0 ?_
  | with_reducible refine r_test ?_
  | with_reducible refine r_bl ?_
  | with_reducible refine r_cb ?_
  | with_reducible refine r_callS ?_
  | with_reducible refine r_and ?_
  | with_reducible refine r_or ?_
  | with_reducible refine r_not ?_
  | with_reducible refine r_B ?_
  | ((with_reducible refine' r_aug ?hv ?_); (case hv => exact rfl))
  | with_reducible refine r_augS ?_
  | with_reducible refine r_ipI ?_
  | with_reducible refine r_asg ?_
  | with_reducible refine r_sub ?_
  | with_reducible refine r_brk ?_
  | with_reducible refine r_isN1 ?_
  | with_reducible refine r_notN1 ?_
  | with_reducible refine r_intI ?_
  | with_reducible refine r_abs ?_
  | with_reducible refine r_min ?_
  | with_reducible refine r_max ?_
  | ((with_reducible refine' r_mod ?hz ?_); (case hz => omega))
  | ((with_reducible refine' r_pow ?hz ?_); (case hz => exact ⟨by decide, by decide, by decide⟩))
  | ((with_reducible refine' r_rg1 ?hz ?_); (case hz => omega))
  | ((with_reducible refine' r_rg2 ?hz ?_); (case hz => omega))
  | ((with_reducible refine' r_newL ?hz ?_); (case hz => exact Nat.le_of_ble_eq_true rfl))
  | ((with_reducible refine' r_newT ?hz ?_); (case hz => exact Nat.le_of_ble_eq_true rfl))
  | with_reducible refine r_for ?_
  | with_reducible refine r_lc ?_
  | with_reducible refine r_iR1 ?_
  | with_reducible refine r_iR2 ?_
  | with_reducible refine r_iL ?_
  | with_reducible refine r_iT ?_
  | with_reducible refine r_gname ?_
  | with_reducible refine r_gcons ?_
  | with_reducible refine r_gnil ?_
  | with_reducible refine r_yes ?_
  | with_reducible refine r_mkO ?_
  | with_reducible refine r_cont ?_
  | with_reducible refine r_drop ?_
  | with_reducible refine r_retN ?_
  | with_reducible refine r_ifC ?_
  | with_reducible refine r_ifI ?_
  | with_reducible refine r_if ?_
  | with_reducible refine r_un ?_
  | with_reducible refine r_neg ?_
  | with_reducible refine r_andV ?_
  | with_reducible refine r_orV ?_
  | with_reducible refine r_notV ?_
  | with_reducible refine r_tup ?_
  | with_reducible refine r_lst ?_
  | with_reducible refine r_bm ?_
  | with_reducible refine r_bm0 ?_
  | with_reducible refine r_sl ?_
  | with_reducible refine r_chain ?_
  | with_reducible refine r_listDn ?_
  | with_reducible refine r_listRg2 ?_
  | with_reducible refine r_listRg1 ?_
  | with_reducible refine r_revL ?_
  | with_reducible refine r_noPart ?_
  | with_reducible refine r_meth ?_
  | with_reducible refine r_methE ?_
  | with_reducible refine r_js ?_
  | with_reducible refine r_jsC ?_
  | with_reducible refine r_jsN ?_
  | with_reducible refine r_fmt ?_
  | with_reducible refine r_fld ?_
  | with_reducible refine r_sfld ?_
  | with_reducible refine r_make ?_
  | with_reducible refine r_m1 ?_
  | with_reducible refine r_m1s ?_
  | with_reducible refine r_iS ?_
  | with_reducible refine r_iE ?_
  | with_reducible refine r_si ?_
  | with_reducible refine r_strS ?_
  | with_reducible refine r_dgt ?_
  | with_reducible refine r_din ?_
  | with_reducible refine r_dnin ?_
  | with_reducible refine r_dput ?_
  | with_reducible refine r_dnew ?_
  | with_reducible refine r_disp1 ?_
  | with_reducible refine r_lenSet ?_
  | with_reducible refine r_get2 ?_
  | with_reducible refine r_get1 ?_
  | with_reducible refine r_daug ?_
  | with_reducible refine r_iR3 ?_
  | with_reducible refine r_prC ?_
  | with_reducible refine r_prN ?_
  | with_reducible refine r_part ?_
  | with_reducible refine r_int ?_
  | ((with_reducible refine' r_sameS ?hs ?_); (case hs => exact rfl))
  | ((with_reducible refine' r_otherS ?hs ?_); (case hs => exact rfl))
  | with_reducible refine ite_t ?_
  | with_reducible refine ite_f ?_
  | with_reducible refine ite_nt ?_
  | with_reducible refine ite_nf ?_)
local macro_rules | `(tactic| walk_at "sv") => `(tactic| repeat (walk_at "su"))

section
variable {P : Program} {w : World} {K : PySem.W.Frag} {mg : Str → Option Value} {base : Heap}

theorem sct_TooMany : FnScope ["error", "found"] ["error"] (defScope s__law_told_fault) := ⟨rfl, rfl, rfl, by decide +kernel, rfl, by decide +kernel, by decide +kernel⟩
theorem tfault_TooMany (T : Txt w K mg) {fd : FuncData} (F : FunD K "_law_told_fault" "_law_told_fault" (defArgs s__law_told_fault) (defBody s__law_told_fault) (defScope s__law_told_fault) [] [] (He.ga K "_law_told_fault") fd) : FnP P w K mg base (L2N.CX P w) 1 (He.ga K "_law_told_fault") fd ["error"] (onP (spFlt K "TooMany" (["what"] : List Str))) := by
  refine fnP_of F sct_TooMany (fun p vs H Q E h => by obtain ⟨dd, kv, us, rfl, _⟩ := h; rfl) (fun p cdv A outer s H vs Q E hot hr h => ?_)
  have nd := sct_TooMany.nd
  obtain ⟨dd, kv, us, rfl, hz, hd, hus, k⟩ := h
  have hf : ∃ ws, p.2.data = .fields ws := by obtain ⟨ws, e, _⟩ := hot.2; exact ⟨ws, e⟩
  obtain ⟨u0, rfl, hu0⟩ : ∃ u0, us = [u0] ∧ kv.lookup ("what" : Str) = some u0 := by
    cases us with
    | nil => simp at hus
    | cons u r =>
      cases r with
      | nil => exact ⟨u, rfl, by simpa using hus⟩
      | cons v r => simp at hus
  have hp : p ∈ (L2H.cxH (L2N.CX P w) P w K mg base ["error", "found"] "_law_told_fault" (defScope s__law_told_fault) (He.ga K "_law_told_fault") cdv A outer s H E p).pn := List.mem_singleton.mpr rfl
  have hu : ((L2H.cxH (L2N.CX P w) P w K mg base ["error", "found"] "_law_told_fault" (defScope s__law_told_fault) (He.ga K "_law_told_fault") cdv A outer s H E p).A).units + 64 < cLine := by have := hr.un; show (A.deeper _).units + 64 < cLine; omega
  have hx : ("TooMany" : Str) ∈ errs := by simp [errs]
  refine ⟨_, (pss_cons (ps_if (pt_val (pe_callB (call_isPT T.e_TooMany.e hz hf hp) (by rfl) T.f_isinstance (by decide +kernel) (pa_cons (pv 0) (pa_cons (pe_tup (pa_cons (pe_gl T.g_BadFormat) (pa_cons (pe_gl T.g_BadValue) (pa_cons (pe_gl T.g_BadShape) (pa_cons (pe_gl T.g_BadRow) (pa_cons (pe_gl T.g_BadSet) (pa_cons (pe_gl T.g_BadReader) (pa_cons (pe_gl T.g_BadLayout) (pa_cons (pe_gl T.g_BadCheck) (pa_cons (pe_gl T.g_BadEdit) (pa_cons (pe_gl T.g_BadPatch) (pa_cons (pe_gl T.g_BadPaper) pa_nil)))))))))))) pa_nil)))) pss_never pss_nil)
        (pss_cons (ps_set (i := 1) nd rfl (Or.inl rfl) (pe_lst pa_nil))
        (pss_cons (ps_if (pt_val (pe_callB (call_isP T.e_TooMany.e hz hf hp) (by rfl) T.f_isinstance (by decide +kernel) (pa_cons (pv 0) (pa_cons (pe_gl T.g_TooMany) pa_nil)))) (pss_one (ps_expr (peBM (K := K) (pe_bm PySem.F.plainAttrs_list PySem.F.slot_list_append PySem.F.type_list_append mt_append (pv 1) (pa_cons (pe_tup (pa_cons pe_str (pa_cons (pe_xp T.e_TooMany.f (T.e_TooMany.no _ (by simp)) hz hf hp (pv 0)) pa_nil))) pa_nil))))) pss_nil)
        (pss_cons (ps_if (pt_val (pe_callB (call_isP T.e_TooMany.e hz hf hp) (by rfl) T.f_isinstance (by decide +kernel) (pa_cons (pv 0) (pa_cons (pe_gl T.g_BadText) pa_nil)))) pss_never pss_nil)
        (pss_cons (ps_if (pt_val (pe_callB (call_isP T.e_TooMany.e hz hf hp) (by rfl) T.f_isinstance (by decide +kernel) (pa_cons (pv 0) (pa_cons (pe_gl T.g_BadCode) pa_nil)))) pss_never pss_nil)
        (pss_cons (ps_if (pt_val (pe_callB (call_isP T.e_TooMany.e hz hf hp) (by rfl) T.f_isinstance (by decide +kernel) (pa_cons (pv 0) (pa_cons (pe_gl T.g_BadFeed) pa_nil)))) pss_never pss_nil)
        (pss_cons (ps_if (pt_val (pe_callB (call_isP T.e_TooMany.e hz hf hp) (by rfl) T.f_isinstance (by decide +kernel) (pa_cons (pv 0) (pa_cons (pe_gl T.g_BadDeed) pa_nil)))) pss_never pss_nil)
        (pss_one (ps_ret (pe_ifExp (PW.pt (pw_and (pt_cmpR (sameK (K := K) hu) (pe_callB (lenK (K := K)) (by rfl) T.f_len boot_len (pa_cons (pv 1) pa_nil)) pe_int (nomark _)) (pw_and1 (pt_val (pe_callB (call_isP T.e_TooMany.e hz hf hp) (by rfl) T.f_isinstance (by decide +kernel) (pa_cons (pv 0) (pa_cons (pe_ty T.f_ValueError) pa_nil))))))) (pe_ix (ixK (K := K)) (pv 1) pe_int (fun _ _ => rfl)) (pe_tup (pa_cons pe_str pa_nil)))))))))))), ?_⟩
  walk_at "st"
  intro t0 H0 ht0 e0 h0
  have hd := e0 _ _ hd
  walk_at "st"
  refine r_isPT hd h0 (.cons (.own _) (.cons (.own _) (.cons (.own _) (.cons (.own _) (.cons (.own _) (.cons (.own _) (.cons (.own _) (.cons (.own _) (.cons (.own _) (.cons (.own _) (.cons (.own _) .nil))))))))))) (kitAny_cons (T.kits.no hx (by simp [errs]) (by decide)) (fun _ => (kitAny_cons (T.kits.no hx (by simp [errs]) (by decide)) (fun _ => (kitAny_cons (T.kits.no hx (by simp [errs]) (by decide)) (fun _ => (kitAny_cons (T.kits.no hx (by simp [errs]) (by decide)) (fun _ => (kitAny_cons (T.kits.no hx (by simp [errs]) (by decide)) (fun _ => (kitAny_cons (T.kits.no hx (by simp [errs]) (by decide)) (fun _ => (kitAny_cons (T.kits.no hx (by simp [errs]) (by decide)) (fun _ => (kitAny_cons (T.kits.no hx (by simp [errs]) (by decide)) (fun _ => (kitAny_cons (T.kits.no hx (by simp [errs]) (by decide)) (fun _ => (kitAny_cons (T.kits.no hx (by simp [errs]) (by decide)) (fun _ => (kitAny_cons (T.kits.no hx (by simp [errs]) (by decide)) (fun _ => rfl) (fun z => nomatch z))) (fun z => nomatch z))) (fun z => nomatch z))) (fun z => nomatch z))) (fun z => nomatch z))) (fun z => nomatch z))) (fun z => nomatch z))) (fun z => nomatch z))) (fun z => nomatch z))) (fun z => nomatch z))) (fun z => nomatch z)) ?_
  have k : ∀ q H', H0 q = none → Ext H0 H' → H' q = some (.tup (.str "TooMany" :: [u0])) → Q (.ref q) H' := fun q H' a b c => k q H' (e0.none a) (e0.trans b) c
  walk_at "st"
  intro l H1 hl e1 h1
  have hd1 := e1 _ _ hd
  walk_at "st"
  refine r_isP hd1 (T.kits.yes hx) ?_
  walk_at "st"
  refine ⟨.inl ⟨rfl, _, sqL h1⟩, ?_⟩
  walk_at "st"
  refine r_xp ?_
  walk_at "st"
  refine ⟨rfl, _, _, hd1, hu0, ?_⟩
  walk_at "st"
  intro q H2 hq e2 h2
  walk_at "st"
  refine r_app (e2 _ _ h1) (by decide) (fun H3 h3 m3 => ?_)
  walk_at "st"
  have nl : dd ≠ l := ne_of_none hd hl
  have nq : q ≠ l := (ne_of_none h1 hq).symm
  have hd3 := mut_at m3 nl (e2 _ _ hd1)
  have hq3 := mut_at m3 nq h2
  have e3 := mut_ext (e1.trans e2) hl m3
  walk_at "st"
  refine r_isP hd3 (T.kits.no hx (by simp [errs]) (by decide)) ?_
  walk_at "st"
  refine r_isP hd3 (T.kits.no hx (by simp [errs]) (by decide)) ?_
  walk_at "st"
  refine r_isP hd3 (T.kits.no hx (by simp [errs]) (by decide)) ?_
  walk_at "st"
  refine r_isP hd3 (T.kits.no hx (by simp [errs]) (by decide)) ?_
  walk_at "st"
  refine r_lenL (sqL h3) rfl ?_
  walk_at "st"
  refine ite_d (fun _ => ?_) (fun c => absurd rfl c)
  walk_at "st"
  refine r_isPV hd3 (T.kits.kitV _ hx) ?_
  walk_at "st"
  refine r_atL (sqL h3) (atI_nat (j := 0) rfl) ?_
  exact k q H3 (e1.none hq) e3 hq3
theorem sct_BadText : FnScope ["error", "found"] ["error"] (defScope s__law_told_fault) := ⟨rfl, rfl, rfl, by decide +kernel, rfl, by decide +kernel, by decide +kernel⟩
theorem tfault_BadText (T : Txt w K mg) {fd : FuncData} (F : FunD K "_law_told_fault" "_law_told_fault" (defArgs s__law_told_fault) (defBody s__law_told_fault) (defScope s__law_told_fault) [] [] (He.ga K "_law_told_fault") fd) : FnP P w K mg base (L2N.CX P w) 1 (He.ga K "_law_told_fault") fd ["error"] (onP (spFlt K "BadText" (["line"] : List Str))) := by
  refine fnP_of F sct_BadText (fun p vs H Q E h => by obtain ⟨dd, kv, us, rfl, _⟩ := h; rfl) (fun p cdv A outer s H vs Q E hot hr h => ?_)
  have nd := sct_BadText.nd
  obtain ⟨dd, kv, us, rfl, hz, hd, hus, k⟩ := h
  have hf : ∃ ws, p.2.data = .fields ws := by obtain ⟨ws, e, _⟩ := hot.2; exact ⟨ws, e⟩
  obtain ⟨u0, rfl, hu0⟩ : ∃ u0, us = [u0] ∧ kv.lookup ("line" : Str) = some u0 := by
    cases us with
    | nil => simp at hus
    | cons u r =>
      cases r with
      | nil => exact ⟨u, rfl, by simpa using hus⟩
      | cons v r => simp at hus
  have hp : p ∈ (L2H.cxH (L2N.CX P w) P w K mg base ["error", "found"] "_law_told_fault" (defScope s__law_told_fault) (He.ga K "_law_told_fault") cdv A outer s H E p).pn := List.mem_singleton.mpr rfl
  have hu : ((L2H.cxH (L2N.CX P w) P w K mg base ["error", "found"] "_law_told_fault" (defScope s__law_told_fault) (He.ga K "_law_told_fault") cdv A outer s H E p).A).units + 64 < cLine := by have := hr.un; show (A.deeper _).units + 64 < cLine; omega
  have hx : ("BadText" : Str) ∈ errs := by simp [errs]
  refine ⟨_, (pss_cons (ps_if (pt_val (pe_callB (call_isPT T.e_BadText.e hz hf hp) (by rfl) T.f_isinstance (by decide +kernel) (pa_cons (pv 0) (pa_cons (pe_tup (pa_cons (pe_gl T.g_BadFormat) (pa_cons (pe_gl T.g_BadValue) (pa_cons (pe_gl T.g_BadShape) (pa_cons (pe_gl T.g_BadRow) (pa_cons (pe_gl T.g_BadSet) (pa_cons (pe_gl T.g_BadReader) (pa_cons (pe_gl T.g_BadLayout) (pa_cons (pe_gl T.g_BadCheck) (pa_cons (pe_gl T.g_BadEdit) (pa_cons (pe_gl T.g_BadPatch) (pa_cons (pe_gl T.g_BadPaper) pa_nil)))))))))))) pa_nil)))) pss_never pss_nil)
        (pss_cons (ps_set (i := 1) nd rfl (Or.inl rfl) (pe_lst pa_nil))
        (pss_cons (ps_if (pt_val (pe_callB (call_isP T.e_BadText.e hz hf hp) (by rfl) T.f_isinstance (by decide +kernel) (pa_cons (pv 0) (pa_cons (pe_gl T.g_TooMany) pa_nil)))) pss_never pss_nil)
        (pss_cons (ps_if (pt_val (pe_callB (call_isP T.e_BadText.e hz hf hp) (by rfl) T.f_isinstance (by decide +kernel) (pa_cons (pv 0) (pa_cons (pe_gl T.g_BadText) pa_nil)))) (pss_one (ps_expr (peBM (K := K) (pe_bm PySem.F.plainAttrs_list PySem.F.slot_list_append PySem.F.type_list_append mt_append (pv 1) (pa_cons (pe_tup (pa_cons pe_str (pa_cons (pe_xp T.e_BadText.f (T.e_BadText.no _ (by simp)) hz hf hp (pv 0)) pa_nil))) pa_nil))))) pss_nil)
        (pss_cons (ps_if (pt_val (pe_callB (call_isP T.e_BadText.e hz hf hp) (by rfl) T.f_isinstance (by decide +kernel) (pa_cons (pv 0) (pa_cons (pe_gl T.g_BadCode) pa_nil)))) pss_never pss_nil)
        (pss_cons (ps_if (pt_val (pe_callB (call_isP T.e_BadText.e hz hf hp) (by rfl) T.f_isinstance (by decide +kernel) (pa_cons (pv 0) (pa_cons (pe_gl T.g_BadFeed) pa_nil)))) pss_never pss_nil)
        (pss_cons (ps_if (pt_val (pe_callB (call_isP T.e_BadText.e hz hf hp) (by rfl) T.f_isinstance (by decide +kernel) (pa_cons (pv 0) (pa_cons (pe_gl T.g_BadDeed) pa_nil)))) pss_never pss_nil)
        (pss_one (ps_ret (pe_ifExp (PW.pt (pw_and (pt_cmpR (sameK (K := K) hu) (pe_callB (lenK (K := K)) (by rfl) T.f_len boot_len (pa_cons (pv 1) pa_nil)) pe_int (nomark _)) (pw_and1 (pt_val (pe_callB (call_isP T.e_BadText.e hz hf hp) (by rfl) T.f_isinstance (by decide +kernel) (pa_cons (pv 0) (pa_cons (pe_ty T.f_ValueError) pa_nil))))))) (pe_ix (ixK (K := K)) (pv 1) pe_int (fun _ _ => rfl)) (pe_tup (pa_cons pe_str pa_nil)))))))))))), ?_⟩
  walk_at "st"
  intro t0 H0 ht0 e0 h0
  have hd := e0 _ _ hd
  walk_at "st"
  refine r_isPT hd h0 (.cons (.own _) (.cons (.own _) (.cons (.own _) (.cons (.own _) (.cons (.own _) (.cons (.own _) (.cons (.own _) (.cons (.own _) (.cons (.own _) (.cons (.own _) (.cons (.own _) .nil))))))))))) (kitAny_cons (T.kits.no hx (by simp [errs]) (by decide)) (fun _ => (kitAny_cons (T.kits.no hx (by simp [errs]) (by decide)) (fun _ => (kitAny_cons (T.kits.no hx (by simp [errs]) (by decide)) (fun _ => (kitAny_cons (T.kits.no hx (by simp [errs]) (by decide)) (fun _ => (kitAny_cons (T.kits.no hx (by simp [errs]) (by decide)) (fun _ => (kitAny_cons (T.kits.no hx (by simp [errs]) (by decide)) (fun _ => (kitAny_cons (T.kits.no hx (by simp [errs]) (by decide)) (fun _ => (kitAny_cons (T.kits.no hx (by simp [errs]) (by decide)) (fun _ => (kitAny_cons (T.kits.no hx (by simp [errs]) (by decide)) (fun _ => (kitAny_cons (T.kits.no hx (by simp [errs]) (by decide)) (fun _ => (kitAny_cons (T.kits.no hx (by simp [errs]) (by decide)) (fun _ => rfl) (fun z => nomatch z))) (fun z => nomatch z))) (fun z => nomatch z))) (fun z => nomatch z))) (fun z => nomatch z))) (fun z => nomatch z))) (fun z => nomatch z))) (fun z => nomatch z))) (fun z => nomatch z))) (fun z => nomatch z))) (fun z => nomatch z)) ?_
  have k : ∀ q H', H0 q = none → Ext H0 H' → H' q = some (.tup (.str "BadText" :: [u0])) → Q (.ref q) H' := fun q H' a b c => k q H' (e0.none a) (e0.trans b) c
  walk_at "st"
  intro l H1 hl e1 h1
  have hd1 := e1 _ _ hd
  walk_at "st"
  refine r_isP hd1 (T.kits.no hx (by simp [errs]) (by decide)) ?_
  walk_at "st"
  refine r_isP hd1 (T.kits.yes hx) ?_
  walk_at "st"
  refine ⟨.inl ⟨rfl, _, sqL h1⟩, ?_⟩
  walk_at "st"
  refine r_xp ?_
  walk_at "st"
  refine ⟨rfl, _, _, hd1, hu0, ?_⟩
  walk_at "st"
  intro q H2 hq e2 h2
  walk_at "st"
  refine r_app (e2 _ _ h1) (by decide) (fun H3 h3 m3 => ?_)
  walk_at "st"
  have nl : dd ≠ l := ne_of_none hd hl
  have nq : q ≠ l := (ne_of_none h1 hq).symm
  have hd3 := mut_at m3 nl (e2 _ _ hd1)
  have hq3 := mut_at m3 nq h2
  have e3 := mut_ext (e1.trans e2) hl m3
  walk_at "st"
  refine r_isP hd3 (T.kits.no hx (by simp [errs]) (by decide)) ?_
  walk_at "st"
  refine r_isP hd3 (T.kits.no hx (by simp [errs]) (by decide)) ?_
  walk_at "st"
  refine r_isP hd3 (T.kits.no hx (by simp [errs]) (by decide)) ?_
  walk_at "st"
  refine r_lenL (sqL h3) rfl ?_
  walk_at "st"
  refine ite_d (fun _ => ?_) (fun c => absurd rfl c)
  walk_at "st"
  refine r_isPV hd3 (T.kits.kitV _ hx) ?_
  walk_at "st"
  refine r_atL (sqL h3) (atI_nat (j := 0) rfl) ?_
  exact k q H3 (e1.none hq) e3 hq3
theorem sct_BadCode : FnScope ["error", "found"] ["error"] (defScope s__law_told_fault) := ⟨rfl, rfl, rfl, by decide +kernel, rfl, by decide +kernel, by decide +kernel⟩
theorem tfault_BadCode (T : Txt w K mg) {fd : FuncData} (F : FunD K "_law_told_fault" "_law_told_fault" (defArgs s__law_told_fault) (defBody s__law_told_fault) (defScope s__law_told_fault) [] [] (He.ga K "_law_told_fault") fd) : FnP P w K mg base (L2N.CX P w) 1 (He.ga K "_law_told_fault") fd ["error"] (onP (spFlt K "BadCode" (["row", "what"] : List Str))) := by
  refine fnP_of F sct_BadCode (fun p vs H Q E h => by obtain ⟨dd, kv, us, rfl, _⟩ := h; rfl) (fun p cdv A outer s H vs Q E hot hr h => ?_)
  have nd := sct_BadCode.nd
  obtain ⟨dd, kv, us, rfl, hz, hd, hus, k⟩ := h
  have hf : ∃ ws, p.2.data = .fields ws := by obtain ⟨ws, e, _⟩ := hot.2; exact ⟨ws, e⟩
  obtain ⟨u0, u1, rfl, hu0, hu1⟩ : ∃ u0 u1, us = [u0, u1] ∧ kv.lookup ("row" : Str) = some u0 ∧ kv.lookup ("what" : Str) = some u1 := by
    cases us with
    | nil => simp at hus
    | cons u r =>
      cases r with
      | nil => simp at hus
      | cons v r =>
        cases r with
        | nil => exact ⟨u, v, rfl, by simp at hus; exact hus.1, by simp at hus; exact hus.2⟩
        | cons v r => simp at hus
  have hp : p ∈ (L2H.cxH (L2N.CX P w) P w K mg base ["error", "found"] "_law_told_fault" (defScope s__law_told_fault) (He.ga K "_law_told_fault") cdv A outer s H E p).pn := List.mem_singleton.mpr rfl
  have hu : ((L2H.cxH (L2N.CX P w) P w K mg base ["error", "found"] "_law_told_fault" (defScope s__law_told_fault) (He.ga K "_law_told_fault") cdv A outer s H E p).A).units + 64 < cLine := by have := hr.un; show (A.deeper _).units + 64 < cLine; omega
  have hx : ("BadCode" : Str) ∈ errs := by simp [errs]
  refine ⟨_, (pss_cons (ps_if (pt_val (pe_callB (call_isPT T.e_BadCode.e hz hf hp) (by rfl) T.f_isinstance (by decide +kernel) (pa_cons (pv 0) (pa_cons (pe_tup (pa_cons (pe_gl T.g_BadFormat) (pa_cons (pe_gl T.g_BadValue) (pa_cons (pe_gl T.g_BadShape) (pa_cons (pe_gl T.g_BadRow) (pa_cons (pe_gl T.g_BadSet) (pa_cons (pe_gl T.g_BadReader) (pa_cons (pe_gl T.g_BadLayout) (pa_cons (pe_gl T.g_BadCheck) (pa_cons (pe_gl T.g_BadEdit) (pa_cons (pe_gl T.g_BadPatch) (pa_cons (pe_gl T.g_BadPaper) pa_nil)))))))))))) pa_nil)))) pss_never pss_nil)
        (pss_cons (ps_set (i := 1) nd rfl (Or.inl rfl) (pe_lst pa_nil))
        (pss_cons (ps_if (pt_val (pe_callB (call_isP T.e_BadCode.e hz hf hp) (by rfl) T.f_isinstance (by decide +kernel) (pa_cons (pv 0) (pa_cons (pe_gl T.g_TooMany) pa_nil)))) pss_never pss_nil)
        (pss_cons (ps_if (pt_val (pe_callB (call_isP T.e_BadCode.e hz hf hp) (by rfl) T.f_isinstance (by decide +kernel) (pa_cons (pv 0) (pa_cons (pe_gl T.g_BadText) pa_nil)))) pss_never pss_nil)
        (pss_cons (ps_if (pt_val (pe_callB (call_isP T.e_BadCode.e hz hf hp) (by rfl) T.f_isinstance (by decide +kernel) (pa_cons (pv 0) (pa_cons (pe_gl T.g_BadCode) pa_nil)))) (pss_one (ps_expr (peBM (K := K) (pe_bm PySem.F.plainAttrs_list PySem.F.slot_list_append PySem.F.type_list_append mt_append (pv 1) (pa_cons (pe_tup (pa_cons pe_str (pa_cons (pe_xp T.e_BadCode.f (T.e_BadCode.no _ (by simp)) hz hf hp (pv 0)) (pa_cons (pe_xp T.e_BadCode.f (T.e_BadCode.no _ (by simp)) hz hf hp (pv 0)) pa_nil)))) pa_nil))))) pss_nil)
        (pss_cons (ps_if (pt_val (pe_callB (call_isP T.e_BadCode.e hz hf hp) (by rfl) T.f_isinstance (by decide +kernel) (pa_cons (pv 0) (pa_cons (pe_gl T.g_BadFeed) pa_nil)))) pss_never pss_nil)
        (pss_cons (ps_if (pt_val (pe_callB (call_isP T.e_BadCode.e hz hf hp) (by rfl) T.f_isinstance (by decide +kernel) (pa_cons (pv 0) (pa_cons (pe_gl T.g_BadDeed) pa_nil)))) pss_never pss_nil)
        (pss_one (ps_ret (pe_ifExp (PW.pt (pw_and (pt_cmpR (sameK (K := K) hu) (pe_callB (lenK (K := K)) (by rfl) T.f_len boot_len (pa_cons (pv 1) pa_nil)) pe_int (nomark _)) (pw_and1 (pt_val (pe_callB (call_isP T.e_BadCode.e hz hf hp) (by rfl) T.f_isinstance (by decide +kernel) (pa_cons (pv 0) (pa_cons (pe_ty T.f_ValueError) pa_nil))))))) (pe_ix (ixK (K := K)) (pv 1) pe_int (fun _ _ => rfl)) (pe_tup (pa_cons pe_str pa_nil)))))))))))), ?_⟩
  walk_at "st"
  intro t0 H0 ht0 e0 h0
  have hd := e0 _ _ hd
  walk_at "st"
  refine r_isPT hd h0 (.cons (.own _) (.cons (.own _) (.cons (.own _) (.cons (.own _) (.cons (.own _) (.cons (.own _) (.cons (.own _) (.cons (.own _) (.cons (.own _) (.cons (.own _) (.cons (.own _) .nil))))))))))) (kitAny_cons (T.kits.no hx (by simp [errs]) (by decide)) (fun _ => (kitAny_cons (T.kits.no hx (by simp [errs]) (by decide)) (fun _ => (kitAny_cons (T.kits.no hx (by simp [errs]) (by decide)) (fun _ => (kitAny_cons (T.kits.no hx (by simp [errs]) (by decide)) (fun _ => (kitAny_cons (T.kits.no hx (by simp [errs]) (by decide)) (fun _ => (kitAny_cons (T.kits.no hx (by simp [errs]) (by decide)) (fun _ => (kitAny_cons (T.kits.no hx (by simp [errs]) (by decide)) (fun _ => (kitAny_cons (T.kits.no hx (by simp [errs]) (by decide)) (fun _ => (kitAny_cons (T.kits.no hx (by simp [errs]) (by decide)) (fun _ => (kitAny_cons (T.kits.no hx (by simp [errs]) (by decide)) (fun _ => (kitAny_cons (T.kits.no hx (by simp [errs]) (by decide)) (fun _ => rfl) (fun z => nomatch z))) (fun z => nomatch z))) (fun z => nomatch z))) (fun z => nomatch z))) (fun z => nomatch z))) (fun z => nomatch z))) (fun z => nomatch z))) (fun z => nomatch z))) (fun z => nomatch z))) (fun z => nomatch z))) (fun z => nomatch z)) ?_
  have k : ∀ q H', H0 q = none → Ext H0 H' → H' q = some (.tup (.str "BadCode" :: [u0, u1])) → Q (.ref q) H' := fun q H' a b c => k q H' (e0.none a) (e0.trans b) c
  walk_at "st"
  intro l H1 hl e1 h1
  have hd1 := e1 _ _ hd
  walk_at "st"
  refine r_isP hd1 (T.kits.no hx (by simp [errs]) (by decide)) ?_
  walk_at "st"
  refine r_isP hd1 (T.kits.no hx (by simp [errs]) (by decide)) ?_
  walk_at "st"
  refine r_isP hd1 (T.kits.yes hx) ?_
  walk_at "st"
  refine ⟨.inl ⟨rfl, _, sqL h1⟩, ?_⟩
  walk_at "st"
  refine r_xp ?_
  walk_at "st"
  refine ⟨rfl, _, _, hd1, hu0, ?_⟩
  walk_at "st"
  refine r_xp ?_
  walk_at "st"
  refine ⟨rfl, _, _, hd1, hu1, ?_⟩
  walk_at "st"
  intro q H2 hq e2 h2
  walk_at "st"
  refine r_app (e2 _ _ h1) (by decide) (fun H3 h3 m3 => ?_)
  walk_at "st"
  have nl : dd ≠ l := ne_of_none hd hl
  have nq : q ≠ l := (ne_of_none h1 hq).symm
  have hd3 := mut_at m3 nl (e2 _ _ hd1)
  have hq3 := mut_at m3 nq h2
  have e3 := mut_ext (e1.trans e2) hl m3
  walk_at "st"
  refine r_isP hd3 (T.kits.no hx (by simp [errs]) (by decide)) ?_
  walk_at "st"
  refine r_isP hd3 (T.kits.no hx (by simp [errs]) (by decide)) ?_
  walk_at "st"
  refine r_lenL (sqL h3) rfl ?_
  walk_at "st"
  refine ite_d (fun _ => ?_) (fun c => absurd rfl c)
  walk_at "st"
  refine r_isPV hd3 (T.kits.kitV _ hx) ?_
  walk_at "st"
  refine r_atL (sqL h3) (atI_nat (j := 0) rfl) ?_
  exact k q H3 (e1.none hq) e3 hq3
def faultL : List (Str × List Str) := [("TooMany", ["what"]), ("BadText", ["line"]), ("BadCode", ["row", "what"])]
theorem ok_fault (T : Txt w K mg) : FaultX P w K mg base "_law_told_fault" faultL := by
  obtain ⟨fd, F⟩ := T.d__law_told_fault
  refine ⟨T.g__law_told_fault, F.kp, fd, fnP_any (fun x hx => ?_), F.bindsN fun _ _ _ _ _ _ us hl => match us, hl with | [_], _ => rfl⟩
  simp only [faultL, List.mem_cons, List.not_mem_nil, or_false] at hx
  rcases hx with rfl | rfl | rfl
  · exact tfault_TooMany T F
  · exact tfault_BadText T F
  · exact tfault_BadCode T F
/-! ### what is read of a text -/
def readD : OutC → PyData
  | .many s => .tuple [.str "TooMany", .str s]
  | .bad n => .tuple [.str "BadText", .int ((n + 1 : Nat) : Int)]
  | .ok rows h t => .list [.list rows, .int h, .int t]
def spRead (K : PySem.W.Frag) : Sp := fun vs H Q _ => ∃ (x : Str) (ls : List Str), vs = [.str x] ∧ x.length ≤ 1000000 ∧ Txt.split x "\n" = ls ∧ 0 < ls.length ∧ (∀ l ∈ ls, l.length ≤ 50000) ∧ ∀ y H', Ext H H' → Dp K H' y (readD (codeF ls)) → Q y H'
theorem bad_tell1 {K : PySem.W.Frag} {c : Value} {l : List (Str × List Str)} {i : Nat} {Wout : L2.WX} {D : Ends} {σ : L2.St} {H1 : Hp} {C f : Str} {v : V} (e : PySem.W.exmOne K (.ref (He.ga K C)) c = some true) (hl : (C, ([f] : List Str)) ∈ l) (hi : i < σ.length)
    (k : ∀ q H', Ext H1 H' → H' q = some (.tup [.str C, v]) → D.rt (.ref q) H') : Bad1 K (WE (wAs K c i (fun a cls d => tRet (tCallS (spFlts K l a cls d) (WE fun _ _ _ _ => False) (tCons (tVar i) tNil))) Wout D) σ) H1 C f v := by
  intro d H' hd e1 h
  refine r_wAs e fun a ha => ?_
  exact ⟨.ref a, by simp [hi], r_flt1 hl h fun q H2 hq e2 h2 => k q H2 (e1.trans e2) h2⟩
theorem sc__law_read : FnScope ["text", "code", "error"] ["text"] (defScope s__law_read) := ⟨rfl, rfl, rfl, by decide +kernel, rfl, by decide +kernel, by decide +kernel⟩
theorem ok__law_read (T : Txt w K mg) : CalG P w K mg base 13 "_law_read" ["text"] (spRead K) := by
  have c_code_from := ok_code_from (P := P) (base := base) T
  have c_ReadCode_rows := ok_ReadCode_rows (P := P) (base := base) T
  have c_ReadCode_head := ok_ReadCode_head (P := P) (base := base) T
  have c_ReadCode_tail := ok_ReadCode_tail (P := P) (base := base) T
  have c_fault : FaultX P w K mg base "_law_told_fault" faultL := ok_fault T
  refine calG_of T.g__law_read T.d__law_read sc__law_read (fun _ _ _ _ _ _ _ us hl => match us, hl with | [_], _ => rfl) (fun vs H Q E h => by obtain ⟨_, _, rfl, _⟩ := h; rfl) (fun cdv A outer s H vs Q E hr h => ?_)
  have nd := sc__law_read.nd
  have hu := hu64 hr
  obtain ⟨x, ls, rfl, hl, hsp, l0, hls, k⟩ := h
  refine ⟨_, (pss_one (ps_tryZ (i := 2) (ts := fun a cls d => tRet (tCallS (spFlts K faultL a cls d) (WE fun _ _ _ _ => False) (tCons (tVar 2) tNil))) rfl rfl nd rfl rfl ⟨rfl, by decide, Or.inl T.g_OutsideError⟩ (L2N.takes_of rfl rfl rfl rfl) (fun W z => (pss_cons (ps_set (i := 1) nd rfl (Or.inl rfl) (pe_cal c_code_from hr (by omega) (fun σ => L2N.passAt z.tk σ) (pa_cons (pv 0) pa_nil)))
        (pss_one (ps_ret (pe_lst (pa_cons (pe_calM0K (K := K) T.c_ReadCode T.mt_ReadCode_rows c_ReadCode_rows hr (by omega) (pv 1)) (pa_cons (pe_calM0K (K := K) T.c_ReadCode T.mt_ReadCode_head c_ReadCode_head hr (by omega) (pv 1)) (pa_cons (pe_calM0K (K := K) T.c_ReadCode T.mt_ReadCode_tail c_ReadCode_tail hr (by omega) (pv 1)) pa_nil)))))))) (fun a oe cls d pn hz hf => (pss_one (ps_ret (pe_faultX c_fault (L2H.roomH_mark (hr.mono (by omega)) _) hz (hotOf hz hf) (List.mem_cons_self) (pv 2))))))), ?_⟩
  have inl1 : (("BadText" : Str), (["line"] : List Str)) ∈ faultL := by simp [faultL]
  have inl2 : (("TooMany" : Str), (["what"] : List Str)) ∈ faultL := by simp [faultL]
  have ex1 := T.kits.exm "BadText" (by simp [errs])
  have ex2 := T.kits.exm "TooMany" (by simp [errs])
  intro z
  walk_at "st"
  refine ⟨x, ls, rfl, hl, hsp, l0, hls, ?_⟩
  cases ho : codeF ls with
  | many s =>
    rw [ho] at k
    exact bad_tell1 ex2 inl2 (Nat.le_of_ble_eq_true rfl) (fun q H' e h => k _ H' e (.tup (sqT h) (.cons (.str _) (.cons (.str _) .nil))))
  | bad n =>
    rw [ho] at k
    exact bad_tell1 ex1 inl1 (Nat.le_of_ble_eq_true rfl) (fun q H' e h => k _ H' e (.tup (sqT h) (.cons (.str _) (.cons (.int _) .nil))))
  | ok rows h t =>
    rw [ho] at k
    intro o H1 e1 hoN cAt sm
    walk_at "st"
    obtain ⟨dx, y, ins, nw⟩ := cAt.ex
    refine r_mt ins rfl (r_nil ?_)
    refine ⟨_, o, rows, h, t, rfl, cAt, sm, fun y1 H2 e2 w2 => ?_⟩
    walk_at "st"
    refine r_mt (e2 _ _ ins) rfl (r_nil ?_)
    have cAt2 : CodeAt K (fun a => H a = none) H2 o rows h t := ⟨dx, y, e2 _ _ ins, nw_ext nw e2⟩
    refine ⟨_, o, rows, h, t, rfl, cAt2, ?_⟩
    walk_at "st"
    refine r_mt (e2 _ _ ins) rfl (r_nil ?_)
    refine ⟨_, o, rows, h, t, rfl, cAt2, ?_⟩
    walk_at "st"
    intro q H3 hq e3 h3
    exact k _ H3 ((e1.trans e2).trans e3) (.lst (sqL h3) (.cons ((nw_ext w2 e3).dp _) (.cons (.int _) (.cons (.int _) .nil))))

end
end K35
set_option maxRecDepth 100000
set_option maxHeartbeats 4000000
namespace K35
open PySem PySem.Spec PyProof.Rows L2 L3
local macro_rules | `(tactic| walk_at "s1") => `(tactic| first
  | with_reducible refine r_seq ?_
  | with_reducible refine r_asgN ?_
  | with_reducible refine r_ret ?_
  | with_reducible refine r_next ?_
  | ((with_reducible refine' r_var ?hv ?_); (case hv => exact rfl))
  | with_reducible refine r_c ?_
  | with_reducible refine r_op ?_
  | with_reducible refine r_cons ?_
  | with_reducible refine r_nil ?_
  | with_reducible refine r_plusI ?_
  | with_reducible refine r_I0 ?_
  | with_reducible refine r_test ?_
  | with_reducible refine r_bl ?_
  | with_reducible refine r_ifS ?_
  | with_reducible refine r_cb ?_
  | with_reducible refine r_callS ?_
  | with_reducible refine r_and ?_
  | with_reducible refine r_or ?_
  | with_reducible refine r_not ?_
  | with_reducible refine r_B ?_
  | ((with_reducible refine' r_aug ?hv ?_); (case hv => exact rfl))
  | with_reducible refine r_augS ?_
  | with_reducible refine r_ipI ?_
  | with_reducible refine r_asg ?_
  | with_reducible refine r_sub ?_
  | with_reducible refine r_brk ?_
  | with_reducible refine r_isN1 ?_
  | with_reducible refine r_notN1 ?_
  | with_reducible refine r_intI ?_
  | with_reducible refine r_abs ?_
  | with_reducible refine r_min ?_
  | with_reducible refine r_max ?_
  | ((with_reducible refine' r_mod ?hz ?_); (case hz => omega))
  | ((with_reducible refine' r_pow ?hz ?_); (case hz => exact ⟨by decide, by decide, by decide⟩))
  | ((with_reducible refine' r_rg1 ?hz ?_); (case hz => omega))
  | ((with_reducible refine' r_rg2 ?hz ?_); (case hz => omega))
  | ((with_reducible refine' r_newL ?hz ?_); (case hz => exact Nat.le_of_ble_eq_true rfl))
  | ((with_reducible refine' r_newT ?hz ?_); (case hz => exact Nat.le_of_ble_eq_true rfl))
  | with_reducible refine r_for ?_
  | with_reducible refine r_lc ?_
  | with_reducible refine r_iR1 ?_
  | with_reducible refine r_iR2 ?_
  | with_reducible refine r_iL ?_
  | with_reducible refine r_iT ?_
  | with_reducible refine r_gname ?_
  | with_reducible refine r_gcons ?_
  | with_reducible refine r_gnil ?_
  | with_reducible refine r_yes ?_
  | with_reducible refine r_mkO ?_
  | with_reducible refine r_cont ?_
  | with_reducible refine r_drop ?_
  | with_reducible refine r_retN ?_
  | with_reducible refine r_ifC ?_
  | with_reducible refine r_ifI ?_
  | with_reducible refine r_if ?_
  | with_reducible refine r_un ?_
  | with_reducible refine r_neg ?_
  | with_reducible refine r_andV ?_
  | with_reducible refine r_orV ?_
  | with_reducible refine r_notV ?_
  | with_reducible refine r_tup ?_
  | with_reducible refine r_lst ?_
  | with_reducible refine r_bm ?_
  | with_reducible refine r_bm0 ?_
  | with_reducible refine r_sl ?_
  | with_reducible refine r_chain ?_
  | with_reducible refine r_listDn ?_
  | with_reducible refine r_listRg2 ?_
  | with_reducible refine r_listRg1 ?_
  | with_reducible refine r_revL ?_
  | with_reducible refine r_noPart ?_
  | with_reducible refine r_meth ?_
  | with_reducible refine r_methE ?_
  | with_reducible refine r_js ?_
  | with_reducible refine r_jsC ?_
  | with_reducible refine r_jsN ?_
  | with_reducible refine r_fmt ?_
  | with_reducible refine r_fld ?_
  | with_reducible refine r_sfld ?_
  | with_reducible refine r_make ?_
  | with_reducible refine r_m1 ?_
  | with_reducible refine r_m1s ?_
  | with_reducible refine r_iS ?_
  | with_reducible refine r_iE ?_
  | with_reducible refine r_si ?_
  | with_reducible refine r_strS ?_
  | with_reducible refine r_dgt ?_
  | with_reducible refine r_din ?_
  | with_reducible refine r_dnin ?_
  | with_reducible refine r_dput ?_
  | with_reducible refine r_dnew ?_
  | with_reducible refine r_disp1 ?_
  | with_reducible refine r_lenSet ?_
  | with_reducible refine r_get2 ?_
  | with_reducible refine r_get1 ?_
  | with_reducible refine r_daug ?_
  | with_reducible refine r_iR3 ?_
  | with_reducible refine r_prC ?_
  | with_reducible refine r_prN ?_
  | with_reducible refine r_part ?_
  | with_reducible refine r_int ?_
  | ((with_reducible refine' r_sameS ?hs ?_); (case hs => exact rfl))
  | ((with_reducible refine' r_otherS ?hs ?_); (case hs => exact rfl))
  | with_reducible refine ite_t ?_
  | with_reducible refine ite_f ?_
  | with_reducible refine ite_nt ?_
  | with_reducible refine ite_nf ?_)
local macro_rules | `(tactic| walk_at "st") => `(tactic| repeat (walk_at "s1"))
local macro_rules | `(tactic| walk_at "su") => `(tactic| first
  | with_reducible refine r_seq ?_
  | with_reducible refine r_asgN ?_
  | with_reducible refine r_ret ?_
  | with_reducible refine r_next ?_
  | ((with_reducible refine' r_var ?hv ?_); (case hv => exact rfl))
  | with_reducible refine r_c ?_
  | with_reducible refine r_op ?_
  | with_reducible refine r_cons ?_
  | with_reducible refine r_nil ?_
  | with_reducible refine r_plusI ?_
  | with_reducible refine r_I0 ?_
  | with_reducible refine r_test ?_
  | with_reducible refine r_bl ?_
  | with_reducible refine r_cb ?_
  | with_reducible refine r_callS ?_
  | with_reducible refine r_and ?_
  | with_reducible refine r_or ?_
  | with_reducible refine r_not ?_
  | with_reducible refine r_B ?_
  | ((with_reducible refine' r_aug ?hv ?_); (case hv => exact rfl))
  | with_reducible refine r_augS ?_
  | with_reducible refine r_ipI ?_
  | with_reducible refine r_asg ?_
  | with_reducible refine r_sub ?_
  | with_reducible refine r_brk ?_
  | with_reducible refine r_isN1 ?_
  | with_reducible refine r_notN1 ?_
  | with_reducible refine r_intI ?_
  | with_reducible refine r_abs ?_
  | with_reducible refine r_min ?_
  | with_reducible refine r_max ?_
  | ((with_reducible refine' r_mod ?hz ?_); (case hz => omega))
  | ((with_reducible refine' r_pow ?hz ?_); (case hz => exact ⟨by decide, by decide, by decide⟩))
  | ((with_reducible refine' r_rg1 ?hz ?_); (case hz => omega))
  | ((with_reducible refine' r_rg2 ?hz ?_); (case hz => omega))
  | ((with_reducible refine' r_newL ?hz ?_); (case hz => exact Nat.le_of_ble_eq_true rfl))
  | ((with_reducible refine' r_newT ?hz ?_); (case hz => exact Nat.le_of_ble_eq_true rfl))
  | with_reducible refine r_for ?_
  | with_reducible refine r_lc ?_
  | with_reducible refine r_iR1 ?_
  | with_reducible refine r_iR2 ?_
  | with_reducible refine r_iL ?_
  | with_reducible refine r_iT ?_
  | with_reducible refine r_gname ?_
  | with_reducible refine r_gcons ?_
  | with_reducible refine r_gnil ?_
  | with_reducible refine r_yes ?_
  | with_reducible refine r_mkO ?_
  | with_reducible refine r_cont ?_
  | with_reducible refine r_drop ?_
  | with_reducible refine r_retN ?_
  | with_reducible refine r_ifC ?_
  | with_reducible refine r_ifI ?_
  | with_reducible refine r_if ?_
  | with_reducible refine r_un ?_
  | with_reducible refine r_neg ?_
  | with_reducible refine r_andV ?_
  | with_reducible refine r_orV ?_
  | with_reducible refine r_notV ?_
  | with_reducible refine r_tup ?_
  | with_reducible refine r_lst ?_
  | with_reducible refine r_bm ?_
  | with_reducible refine r_bm0 ?_
  | with_reducible refine r_sl ?_
  | with_reducible refine r_chain ?_
  | with_reducible refine r_listDn ?_
  | with_reducible refine r_listRg2 ?_
  | with_reducible refine r_listRg1 ?_
  | with_reducible refine r_revL ?_
  | with_reducible refine r_noPart ?_
  | with_reducible refine r_meth ?_
  | with_reducible refine r_methE ?_
  | with_reducible refine r_js ?_
  | with_reducible refine r_jsC ?_
  | with_reducible refine r_jsN ?_
  | with_reducible refine r_fmt ?_
  | with_reducible refine r_fld ?_
  | with_reducible refine r_sfld ?_
  | with_reducible refine r_make ?_
  | with_reducible refine r_m1 ?_
  | with_reducible refine r_m1s ?_
  | with_reducible refine r_iS ?_
  | with_reducible refine r_iE ?_
  | with_reducible refine r_si ?_
  | with_reducible refine r_strS ?_
  | with_reducible refine r_dgt ?_
  | with_reducible refine r_din ?_
  | with_reducible refine r_dnin ?_
  | with_reducible refine r_dput ?_
  | with_reducible refine r_dnew ?_
  | with_reducible refine r_disp1 ?_
  | with_reducible refine r_lenSet ?_
  | with_reducible refine r_get2 ?_
  | with_reducible refine r_get1 ?_
  | with_reducible refine r_daug ?_
  | with_reducible refine r_iR3 ?_
  | with_reducible refine r_prC ?_
  | with_reducible refine r_prN ?_
  | with_reducible refine r_part ?_
  | with_reducible refine r_int ?_
  | ((with_reducible refine' r_sameS ?hs ?_); (case hs => exact rfl))
  | ((with_reducible refine' r_otherS ?hs ?_); (case hs => exact rfl))
  | with_reducible refine ite_t ?_
  | with_reducible refine ite_f ?_
  | with_reducible refine ite_nt ?_
  | with_reducible refine ite_nf ?_)
local macro_rules | `(tactic| walk_at "sv") => `(tactic| repeat (walk_at "su"))

section
variable {P : Program} {w : World} {K : PySem.W.Frag} {mg : Str → Option Value} {base : Heap}

/-! ### rows as lines -/
theorem log30 {n : Int} (h : n.natAbs ≤ 10 ^ 30) : n.natAbs.log2 < 1920 := by
  by_cases c : n.natAbs = 0
  · rw [c]; decide
  · exact (Nat.log2_lt c).mpr (Nat.lt_of_le_of_lt h (by decide +kernel))
theorem strZ {K : PySem.W.Frag} {H : Hp} {x : V} {d : PyData} {Q : VK} (h : Dp K H x d) (hd : ScR d) (k : Q (.str (wz d)) H) : StrS [x] H Q := by
  cases hd with
  | str s _ _ _ =>
    obtain rfl := dp_strE h
    exact r_strS k
  | int n hn =>
    obtain rfl := dp_intE h
    exact r_strI (log30 hn) k
theorem wordsZ {K : PySem.W.Frag} {H : Hp} {a D : Addr} {xs : List V} {ds : List PyData} {Qd : Hp → Prop} {σ : L2.St} {i : Nat} {vs : List Nat} (hv : ∀ x, ((wipe σ vs).set i (some x))[i]? = some (some x)) (hw : ∀ x, wipe ((wipe σ vs).set i (some x)) vs = wipe σ vs)
    (ha : SqT K H a xs) (hn : DpAll K H xs ds) (ok : ∀ d ∈ ds, ScR d) (hl : ds.length ≤ 1000) (hD : H D = none) (k : ∀ H', Ext H H' → H' D = some (.lst ((ds.map wz).map V.str)) → Qd H') :
    LcW (Itt K a) (gName i) tYes (tCB StrS (tCons (tVar i) tNil)) vs σ D Qd H := by
  have ln := dps_len hn
  refine lcW_tup (xs := xs) (fun j H' => LcP H D (fun j => V.str (wz (ds.getD j .none))) j H') (.start hD) (fun j H' _ q => q.e.tu ha) (fun j x H' hx q => ?_) (fun H' q => k H' q.e ?_)
  · have jj := (List.getElem?_eq_some_iff.mp hx).1
    have hj : j < ds.length := ln ▸ jj
    obtain ⟨y, hy, hwy⟩ := dps_get hn (List.getElem?_eq_getElem hj)
    rw [hx] at hy
    cases hy
    refine r_gname (r_lcW (hw x) (r_yes ?_))
    show if true = true then _ else _
    refine ite_t (r_cb (r_cons (r_var (hv x) (r_nil ?_))))
    refine strZ (K := K) (q.e.dp _ hwy) (ok _ (List.getElem_mem hj)) ?_
    exact q.push hD (by omega) .rfl (by rw [List.getD_eq_getElem?_getD, List.getElem?_eq_getElem hj]; rfl)
  · rw [q.d, ln]
    congr 2
    apply List.ext_getElem?
    intro j
    by_cases c : j < ds.length
    · rw [List.getElem?_map, List.getElem?_range c, List.getElem?_map, List.getElem?_map, List.getElem?_eq_getElem c]
      show some (V.str (wz (ds.getD j .none))) = some (V.str (wz ds[j]))
      rw [List.getD_eq_getElem?_getD, List.getElem?_eq_getElem c]
      rfl
    · rw [List.getElem?_eq_none (by rw [List.length_map, List.length_range]; omega), List.getElem?_eq_none (by rw [List.length_map, List.length_map]; omega)]
/-! joins -/
theorem jn_app : ∀ {A B : List Str}, A ≠ [] → B ≠ [] → jn (A ++ B) = jn A ++ (sp1 ++ jn B)
  | [], _, h, _ => absurd rfl h
  | [a], B, _, hB => by
    rw [jn_one]
    exact jn_cons hB
  | a :: b :: A, B, _, hB => by
    show jn (a :: ((b :: A) ++ B)) = _
    rw [jn_cons (by simp), jn_cons (List.cons_ne_nil _ _), jn_app (List.cons_ne_nil b A) hB, app_assoc, app_assoc]
theorem jn_flat : ∀ {gs : List (List Str)} {a : Str}, (∀ g ∈ gs, g ≠ []) → jn (a :: gs.map jn) = jn (a :: gs.flatten)
  | [], a, _ => rfl
  | g :: gs, a, h => by
    have hg := h g List.mem_cons_self
    have ih := jn_flat (gs := gs) (a := jn g) fun x hx => h x (List.mem_cons_of_mem _ hx)
    have e : jn (jn g :: gs.flatten) = jn (g ++ gs.flatten) := by
      cases hf : gs.flatten with
      | nil => rw [jn_one, List.append_nil]
      | cons x r => rw [jn_cons (List.cons_ne_nil _ _), jn_app hg (List.cons_ne_nil _ _)]
    have ne : g ++ gs.flatten ≠ [] := fun z => hg (List.append_eq_nil_iff.mp z).1
    rw [List.map_cons, jn_cons (List.cons_ne_nil _ _), ih, List.flatten_cons, e, jn_cons ne]
abbrev orT : Str := " or "
theorem orT_eq : orT = sp1 ++ (("or" : Str) ++ sp1) := by decide +kernel
theorem join_cons2 {S a b : Str} {l : List Str} : Txt.join S (a :: b :: l) = a ++ (S ++ Txt.join S (b :: l)) := by
  rw [TL.join_eq, TL.join_eq]
  show a ++ S ++ Str.join S (b :: l) = _
  rw [app_assoc]
theorem join_one {S a : Str} : Txt.join S [a] = a := by
  rw [TL.join_eq]
  rfl
theorem or_jn : ∀ {gs : List (List Str)}, gs ≠ [] → (∀ g ∈ gs, g ≠ []) → Txt.join orT (gs.map jn) = jn (joinOr gs)
  | [], h, _ => absurd rfl h
  | [g], _, _ => join_one
  | g :: h :: r, _, hn => by
    have ih := or_jn (gs := h :: r) (List.cons_ne_nil _ _) fun x hx => hn x (List.mem_cons_of_mem _ hx)
    have ne : joinOr (h :: r) ≠ [] := joinOr_ne (List.cons_ne_nil _ _) fun x hx => hn x (List.mem_cons_of_mem _ hx)
    rw [List.map_cons, List.map_cons, join_cons2, ← List.map_cons, ih]
    show _ = jn (g ++ ("or" : Str) :: joinOr (h :: r))
    rw [jn_app (hn g List.mem_cons_self) (List.cons_ne_nil _ _), jn_cons ne, orT_eq, app_assoc, app_assoc]
theorem find_jn {n : Str} {gs : List (List Str)} (h : gs ≠ []) (hn : ∀ g ∈ gs, g ≠ []) : ("find " : Str) ++ n ++ (" " : Str) ++ Txt.join orT (gs.map jn) = jn (("find" : Str) :: n :: joinOr gs) := by
  have ne := joinOr_ne h hn
  have e : ("find " : Str) = ("find" : Str) ++ sp1 := by decide +kernel
  rw [or_jn h hn, jn_cons (List.cons_ne_nil _ _), jn_cons ne, e, show (" " : Str) = sp1 from rfl, app_assoc, app_assoc, app_assoc]
theorem find_jn0 {n : Str} : ("find " : Str) ++ n = jn [("find" : Str), n] := by
  have e : ("find " : Str) = ("find" : Str) ++ sp1 := by decide +kernel
  rw [jn_cons (List.cons_ne_nil _ _), jn_one, e, app_assoc]
theorem jn_w {ws : List Str} {n : Nat} (h : ∀ w ∈ ws, WOk w) (hl : ws.length ≤ n) : (jn ws).length ≤ 41 * n := jn_le (fun s hs => (h s hs).len) hl
theorem join_le {ws : List Str} {S : Str} {m n k : Nat} (h : ∀ w ∈ ws, w.length ≤ m) (hl : ws.length ≤ n) (hS : S.length ≤ k) (hb : m * n + n * k ≤ 16777216) : (ws.map (·.length)).sum + ws.length * S.length ≤ 16777216 := by
  have h1 := sum_len h
  have h2 : m * ws.length ≤ m * n := Nat.mul_le_mul_left _ hl
  have h3 : ws.length * S.length ≤ n * k := Nat.mul_le_mul hl hS
  omega
theorem StepR.words {d : PyData} (h : StepR d) : (∀ w ∈ stepW d, WOk w) ∧ (stepW d).length ≤ 3 ∧ stepW d ≠ [] := by
  obtain ⟨k, r, rfl, sc, ln, _⟩ := h.sc
  refine ⟨fun w hw => ?_, ?_, List.cons_ne_nil _ _⟩
  · obtain ⟨e, he, rfl⟩ := List.mem_map.mp (show w ∈ (PyData.str k :: r).map wz from hw)
    exact (sc e he).wok
  · show ((PyData.str k :: r).map wz).length ≤ 3
    rw [List.length_map, ln]
    unfold stpN
    split <;> omega
theorem sp1_len : sp1.length ≤ 1 := by decide +kernel
def spLine (K : PySem.W.Frag) (R : PyData → Prop) (f : PyData → List Str) : Sp := fun vs H Q _ => ∃ (x : V) (d : PyData), vs = [x] ∧ Dp K H x d ∧ R d ∧ ∀ H', Ext H H' → Q (.str (jn (f d))) H'
theorem sc__law_way_line : FnScope ["way", "step", "one"] ["way"] (defScope s__law_way_line) := ⟨rfl, rfl, rfl, by decide +kernel, rfl, by decide +kernel, by decide +kernel⟩
theorem ok__law_way_line (T : Txt w K mg) : CalG P w K mg base 1 "_law_way_line" ["way"] (spLine K WayR wayW) := by
  refine calG_of T.g__law_way_line T.d__law_way_line sc__law_way_line (fun _ _ _ _ _ _ _ us hl => match us, hl with | [_], _ => rfl) (fun vs H Q E h => by obtain ⟨_, _, rfl, _⟩ := h; rfl) (fun cdv A outer s H vs Q E hr h => ?_)
  have nd := sc__law_way_line.nd
  have hu := hu64 hr
  obtain ⟨x, d, rfl, hx, hR, k⟩ := h
  refine ⟨_, (pss_one (ps_ret (pe_joinK (K := K) pe_str (pe_op (plusK (K := K)) (pe_lst (pa_cons (pe_ix (ixK (K := K)) (pv 0) pe_int (fun _ _ => rfl)) pa_nil)) (pe_lc (own := [("step", 1)]) rfl nd (piL (K := K) (pe_ix (ixK (K := K)) (pv 0) pe_int (fun _ _ => rfl))) (blkOk_by (N := ["way", "step", "one"]) (sc := defScope s__law_way_line) (by decide +kernel)) (fun _ _ _ _ _ => (pg_name (i := 1) nd rfl (Or.inl rfl))) (fun _ _ _ _ _ => pts_nil) (fun _ _ _ _ _ => (pe_joinK (K := K) pe_str (pe_lc (own := [("one", 2)]) rfl nd (piT (K := K) (pv 1)) (blkOk_by (by kernel_rfl)) (fun _ _ _ _ _ => (pg_name (i := 2) nd rfl (Or.inl rfl))) (fun _ _ _ _ _ => pts_nil) (fun _ _ _ _ _ => (pe_callTy cr_str (by rfl) T.f_str (by decide +kernel) (pa_cons (pv 2) pa_nil))))))))))), ?_⟩
  cases hR with
  | mk b l hb hl ll =>
    obtain ⟨p, xs, rfl, hp, hs⟩ := dp_tupE hx
    obtain ⟨y, ys, rfl, hy, hs⟩ := dpa_consE hs
    obtain ⟨z, zs, rfl, hz, hs⟩ := dpa_consE hs
    obtain rfl := dp_strE hy
    obtain ⟨lp, ls, rfl, hlp, hls⟩ := dp_lstE hz
    have sb : ScR (.str b) := .lit (by simp only [List.mem_cons, List.not_mem_nil, or_false] at hb ⊢; rcases hb with h | h <;> simp [h])
    walk_at "st"
    refine r_atT hp (atI_nat (j := 0) rfl) ?_
    walk_at "st"
    intro q H1 hq e1 h1
    walk_at "st"
    refine r_atT (e1.tu hp) (atI_nat (j := 1) rfl) ?_
    refine r_li (e1.l hlp) ?_
    intro D hD
    refine lcW_list (LcP H1 D fun i => .str (jn (stepW (l.getD i .none)))) (.start hD) (fun i H' _ q => (e1.trans q.e).l hlp) (fun i y H2 hy q => ?_) (fun H2 q => ?_)
    · obtain ⟨s, hs1, hys⟩ := dps_at hls hy
      have sR := hl s (List.mem_of_getElem? hs1)
      obtain ⟨w1, w2, w3⟩ := sR.words
      obtain ⟨kk, r, rfl, sc, ln, _⟩ := sR.sc
      obtain ⟨sp, sxs, rfl, hsp, hsx⟩ := dp_tupE ((e1.trans q.e).dp _ hys)
      walk_at "st"
      refine r_lcW rfl ?_
      walk_at "st"
      refine r_ti hsp ?_
      intro D2 hD2
      refine wordsZ (fun x => rfl) (fun x => rfl) hsp hsx sc (by rw [ln]; unfold stpN; split <;> omega) hD2 (fun H3 e3 h3 => ?_)
      walk_at "st"
      refine r_join (ys := stepW (.tuple (.str kk :: r))) (sqL h3) (join_le (m := 40) (n := 3) (k := 1) (fun w hw => (w1 w hw).len) w2 sp1_len (by decide)) ?_
      refine q.push hD (by have := (List.getElem?_eq_some_iff.mp hs1).1; omega) e3 ?_
      rw [List.getD_eq_getElem?_getD, hs1]
      rfl
    · walk_at "st"
      have d2 : H2 D = some (.lst ((l.map fun s => jn (stepW s)).map V.str)) := by
        rw [q.d, dps_len hls]
        congr 2
        apply List.ext_getElem?
        intro j
        by_cases c : j < l.length
        · rw [List.getElem?_map, List.getElem?_range c, List.getElem?_map, List.getElem?_map, List.getElem?_eq_getElem c]
          show some (V.str (jn (stepW (l.getD j .none)))) = _
          rw [List.getD_eq_getElem?_getD, List.getElem?_eq_getElem c]
          rfl
        · rw [List.getElem?_eq_none (by rw [List.length_map, List.length_range]; omega), List.getElem?_eq_none (by rw [List.length_map, List.length_map]; omega)]
      refine r_catL (q.e _ _ h1) d2 (by rw [List.length_map, List.length_map]; show 1 + _ ≤ _; omega) (fun u H3 hu3 e3 h3 => ?_)
      walk_at "st"
      have h3' : H3 u = some (.lst ((b :: l.map fun s => jn (stepW s)).map V.str)) := h3
      refine r_join (sqL h3') (join_le (m := 123) (n := 11) (k := 1) (fun w hw => ?_) (by rw [List.length_cons, List.length_map]; omega) sp1_len (by decide)) ?_
      · rcases List.mem_cons.mp hw with rfl | hw
        · have : WOk w := sb.wok
          have := this.len
          omega
        · obtain ⟨s, hs, rfl⟩ := List.mem_map.mp hw
          obtain ⟨w1, w2, _⟩ := (hl s hs).words
          exact jn_w w1 w2
      have k := k H3 ((e1.trans q.e).trans e3)
      have ej : Txt.join sp1 (b :: l.map fun s => jn (stepW s)) = jn (wayW (.tuple [.str b, .list l])) := by
        have := jn_flat (gs := l.map stepW) (a := b) fun g hg => by
          obtain ⟨s, hs, rfl⟩ := List.mem_map.mp hg
          exact (hl s hs).words.2.2
        rw [List.map_map] at this
        show jn _ = jn (b :: l.flatMap stepW)
        rw [List.flatMap_def]
        exact this
      rw [show (Str.ofString " ") = sp1 from rfl, ej]
      exact k
theorem way_words {d : PyData} (h : WayR d) : (jn (wayW d)).length ≤ 1271 := jn_w (fun w hw => (h.no_or w hw).2.1) h.len.1
theorem map_ways {K : PySem.W.Frag} {H2 : Hp} {D : Addr} {l : List PyData} {n : Nat} (hn : n = l.length) (h : H2 D = some (.lst ((List.range n).map fun i => V.str (jn (wayW (l.getD i .none)))))) : H2 D = some (.lst (((l.map wayW).map jn).map V.str)) := by
  rw [h, hn]
  congr 2
  apply List.ext_getElem?
  intro j
  by_cases c : j < l.length
  · rw [List.getElem?_map, List.getElem?_range c, List.getElem?_map, List.getElem?_map, List.getElem?_map, List.getElem?_eq_getElem c]
    show some (V.str (jn (wayW (l.getD j .none)))) = _
    rw [List.getD_eq_getElem?_getD, List.getElem?_eq_getElem c]
    rfl
  · rw [List.getElem?_eq_none (by rw [List.length_map, List.length_range]; omega), List.getElem?_eq_none (by rw [List.length_map, List.length_map, List.length_map]; omega)]
theorem ways_join {l : List PyData} (hl : ∀ d ∈ l, WayR d) (ll : l.length ≤ 7) : (((l.map wayW).map jn).map (·.length)).sum + ((l.map wayW).map jn).length * orT.length ≤ 16777216 := by
  refine join_le (m := 1271) (n := 7) (k := 4) (fun w hw => ?_) (by rw [List.length_map, List.length_map]; exact ll) (by decide +kernel) (by decide)
  obtain ⟨g, hg, rfl⟩ := List.mem_map.mp hw
  obtain ⟨d, hd, rfl⟩ := List.mem_map.mp hg
  exact way_words (hl d hd)
theorem ways_len {l : List PyData} (hl : ∀ d ∈ l, WayR d) (ll : l.length ≤ 7) : (Txt.join orT ((l.map wayW).map jn)).length ≤ 10000 := by
  by_cases c : l = []
  · subst c
    decide +kernel
  · have ne : l.map wayW ≠ [] := fun z => c (List.map_eq_nil_iff.mp z)
    have hn : ∀ g ∈ l.map wayW, g ≠ [] := fun g hg => by
      obtain ⟨d, hd, rfl⟩ := List.mem_map.mp hg
      exact (hl d hd).len.2
    rw [or_jn ne hn]
    have h1 := joinOr_len (l := l.map wayW) (n := 31) fun g hg => by
      obtain ⟨y, hy, rfl⟩ := List.mem_map.mp hg
      exact (hl y hy).len.1
    rw [List.length_map] at h1
    have := jn_w (ws := joinOr (l.map wayW)) (n := 224) (fun w hw => by
      rcases joinOr_mem hw with rfl | ⟨g, hg, hw⟩
      · exact or_ok.1
      · obtain ⟨y, hy, rfl⟩ := List.mem_map.mp hg
        exact ((hl y hy).no_or w hw).2.1) (by omega)
    omega
theorem flat_row {d : PyData} (h : RowR d) : (∃ k r, d = .tuple (.str k :: r) ∧ k ≠ "find" ∧ (∀ e ∈ PyData.str k :: r, ScR e) ∧ rowW d = (PyData.str k :: r).map wz ∧ r.length ≤ 3) ∨ ∃ a l, d = .tuple [.str "find", .int ((a : Nat) : Int), .list l] ∧ a ≤ 10 ^ 30 ∧ (∀ e ∈ l, WayR e) ∧ l.length ≤ 7 := by
  cases h with
  | leaf a b h1 h2 => exact .inl ⟨_, _, rfl, by decide +kernel, sc_cons (.lit (by simp)) (sc_cons (nat30 h1) (sc_cons (nat30 h2) sc_nil)), rfl, by show 2 ≤ 3; decide⟩
  | tie a b c h1 h2 h3 => exact .inl ⟨_, _, rfl, by decide +kernel, sc_cons (.lit (by simp)) (sc_cons (nat30 h1) (sc_cons (nat30 h2) (sc_cons (.int c h3) sc_nil))), rfl, by show 3 ≤ 3; decide⟩
  | find a l h1 hl ll => exact .inr ⟨a, l, rfl, h1, hl, ll⟩
theorem numZ_len {a : Nat} (h : a ≤ 10 ^ 30) : (numZ (a : Nat)).length ≤ 40 := (wok_numZ (by omega)).len
theorem sc__law_code_line : FnScope ["row", "one", "way"] ["row"] (defScope s__law_code_line) := ⟨rfl, rfl, rfl, by decide +kernel, rfl, by decide +kernel, by decide +kernel⟩
theorem ok__law_code_line (T : Txt w K mg) : CalG P w K mg base 2 "_law_code_line" ["row"] (spLine K RowR rowW) := by
  have c__law_way_line := ok__law_way_line (P := P) (base := base) T
  refine calG_of T.g__law_code_line T.d__law_code_line sc__law_code_line (fun _ _ _ _ _ _ _ us hl => match us, hl with | [_], _ => rfl) (fun vs H Q E h => by obtain ⟨_, _, rfl, _⟩ := h; rfl) (fun cdv A outer s H vs Q E hr h => ?_)
  have nd := sc__law_code_line.nd
  have hu := hu64 hr
  obtain ⟨x, d, rfl, hx, hR, k⟩ := h
  refine ⟨_, (pss_cons (ps_if (pt_cmpR (otherK (K := K) hu) (pe_ix (ixK (K := K)) (pv 0) pe_int (fun _ _ => rfl)) pe_str (nomark _)) (pss_one (ps_ret (pe_joinK (K := K) pe_str (pe_lc (own := [("one", 1)]) rfl nd (piT (K := K) (pv 0)) (blkOk_by (N := ["row", "one", "way"]) (sc := defScope s__law_code_line) (by decide +kernel)) (fun _ _ _ _ _ => (pg_name (i := 1) nd rfl (Or.inl rfl))) (fun _ _ _ _ _ => pts_nil) (fun _ _ _ _ _ => (pe_callTy cr_str (by rfl) T.f_str (by decide +kernel) (pa_cons (pv 1) pa_nil))))))) pss_nil)
        (pss_cons (ps_if (pt_cmpR (sameK (K := K) hu) (pe_callB (lenK (K := K)) (by rfl) T.f_len boot_len (pa_cons (pe_ix (ixK (K := K)) (pv 0) pe_int (fun _ _ => rfl)) pa_nil)) pe_int (nomark _)) (pss_one (ps_ret (pe_op (plusK (K := K)) pe_str (pe_callTy cr_str (by rfl) T.f_str (by decide +kernel) (pa_cons (pe_ix (ixK (K := K)) (pv 0) pe_int (fun _ _ => rfl)) pa_nil))))) pss_nil)
        (pss_one (ps_ret (pe_op (plusK (K := K)) (pe_op (plusK (K := K)) (pe_op (plusK (K := K)) pe_str (pe_callTy cr_str (by rfl) T.f_str (by decide +kernel) (pa_cons (pe_ix (ixK (K := K)) (pv 0) pe_int (fun _ _ => rfl)) pa_nil))) pe_str) (pe_joinK (K := K) pe_str (pe_lc (own := [("way", 2)]) rfl nd (piL (K := K) (pe_ix (ixK (K := K)) (pv 0) pe_int (fun _ _ => rfl))) (blkOk_by (N := ["row", "one", "way"]) (sc := defScope s__law_code_line) (by decide +kernel)) (fun _ _ _ _ _ => (pg_name (i := 2) nd rfl (Or.inl rfl))) (fun _ _ _ _ _ => pts_nil) (fun _ _ _ _ _ => (pe_cal c__law_way_line hr (by omega) passN (pa_cons (pv 2) pa_nil)))))))))), ?_⟩
  have lf : ("find " : Str).length = 5 := by decide +kernel
  have lsp : (" " : Str).length = 1 := by decide +kernel
  rcases flat_row hR with ⟨kd, r, rfl, kn, sc, er, lr⟩ | ⟨a, l, rfl, ha, hl, ll⟩
  · obtain ⟨p, xs, rfl, hp, hs⟩ := dp_tupE hx
    have hs0 := hs
    obtain ⟨y, ys, rfl, hy, hs⟩ := dpa_consE hs
    obtain rfl := dp_strE hy
    walk_at "st"
    refine r_atT hp (atI_nat (j := 0) rfl) ?_
    walk_at "st"
    refine ite_n (fun _ => ?_) (fun z => absurd (V.str.inj z) kn)
    walk_at "st"
    refine r_ti hp ?_
    intro D hD
    refine wordsZ (fun x => rfl) (fun x => rfl) hp hs0 sc (by rw [List.length_cons]; omega) hD (fun H1 e1 h1 => ?_)
    walk_at "st"
    refine r_join (ys := (PyData.str kd :: r).map wz) (sqL h1) (join_le (m := 40) (n := 4) (k := 1) (fun w hw => ?_) (by rw [List.length_map, List.length_cons]; omega) sp1_len (by decide)) ?_
    · obtain ⟨e, he, rfl⟩ := List.mem_map.mp hw
      exact (sc e he).wok.len
    have k := k H1 e1
    rw [er] at k
    exact k
  · obtain ⟨p, xs, rfl, hp, hs⟩ := dp_tupE hx
    obtain ⟨y, ys, rfl, hy, hs⟩ := dpa_consE hs
    obtain ⟨z, zs, rfl, hz, hs⟩ := dpa_consE hs
    obtain ⟨u, us, rfl, hu', hs⟩ := dpa_consE hs
    obtain rfl := dp_strE hy
    obtain rfl := dp_intE hz
    obtain ⟨lp, ls, rfl, hlp, hls⟩ := dp_lstE hu'
    have ln := dps_len hls
    have na := numZ_len ha
    have la := log30 (n := (a : Int)) (by omega)
    walk_at "st"
    refine r_atT hp (atI_nat (j := 0) rfl) ?_
    walk_at "st"
    refine ite_n (fun n => absurd rfl n) (fun _ => ?_)
    walk_at "st"
    refine r_atT hp (atI_nat (j := 2) rfl) ?_
    walk_at "st"
    refine r_lenL hlp (n := (l.length : Nat)) (by rw [ln]) ?_
    walk_at "st"
    refine ite_d (fun c => ?_) (fun c => ?_)
    · have l0 : l = [] := List.eq_nil_of_length_eq_zero (by have := V.int.inj c; omega)
      subst l0
      walk_at "st"
      refine r_atT hp (atI_nat (j := 1) rfl) ?_
      walk_at "st"
      refine r_strI la ?_
      refine r_plusS (i := ("find " : Str)) (j := numZ (a : Nat)) (by rw [lf]; omega) ?_
      have k := k H .rfl
      rw [show rowW (.tuple [.str "find", .int (a : Nat), .list []]) = [("find" : Str), numZ (a : Nat)] from rfl, ← find_jn0] at k
      exact k
    have ne : l.map wayW ≠ [] := fun z => c (by rw [List.map_eq_nil_iff.mp z]; rfl)
    have hn : ∀ g ∈ l.map wayW, g ≠ [] := fun g hg => by
      obtain ⟨d, hd, rfl⟩ := List.mem_map.mp hg
      exact (hl d hd).len.2
    walk_at "st"
    refine r_atT hp (atI_nat (j := 1) rfl) ?_
    walk_at "st"
    refine r_strI la ?_
    refine r_plusS (i := ("find " : Str)) (j := numZ (a : Nat)) (by rw [lf]; omega) ?_
    walk_at "st"
    refine r_plusS (i := ("find " : Str) ++ numZ (a : Nat)) (j := (" " : Str)) (by rw [len_app, lf, lsp]; omega) ?_
    walk_at "st"
    refine r_atT hp (atI_nat (j := 2) rfl) ?_
    refine r_li hlp ?_
    intro D hD
    refine lcW_list (LcP H D fun i => .str (jn (wayW (l.getD i .none)))) (.start hD) (fun i H' _ q => q.e.l hlp) (fun i y H2 hy q => ?_) (fun H2 q => ?_)
    · obtain ⟨s, hs1, hys⟩ := dps_at hls hy
      walk_at "st"
      refine r_lcW rfl ?_
      walk_at "st"
      refine ⟨y, s, rfl, q.e.dp _ hys, hl s (List.mem_of_getElem? hs1), fun H3 e3 => ?_⟩
      refine q.push hD (by have := (List.getElem?_eq_some_iff.mp hs1).1; omega) e3 ?_
      rw [List.getD_eq_getElem?_getD, hs1]
      rfl
    · have d2 := map_ways (K := K) ln q.d
      walk_at "st"
      refine r_join (a := orT) (sqL d2) (ways_join hl ll) ?_
      have wl := ways_len hl ll
      refine r_plusS (i := ("find " : Str) ++ numZ (a : Nat) ++ (" " : Str)) (by rw [len_app, len_app, lf, lsp]; omega) ?_
      have k := k H2 q.e
      rw [show rowW (.tuple [.str "find", .int (a : Nat), .list l]) = ("find" : Str) :: numZ (a : Nat) :: joinOr (l.map wayW) from rfl, ← find_jn ne hn] at k
      exact k

end
end K35
set_option maxRecDepth 100000
set_option maxHeartbeats 4000000
namespace K35
open PySem PySem.Spec PyProof.Rows L2 L3
local macro_rules | `(tactic| walk_at "s1") => `(tactic| first
  | with_reducible refine r_seq ?_
  | with_reducible refine r_asgN ?_
  | with_reducible refine r_ret ?_
  | with_reducible refine r_next ?_
  | ((with_reducible refine' r_var ?hv ?_); (case hv => exact rfl))
  | with_reducible refine r_c ?_
  | with_reducible refine r_op ?_
  | with_reducible refine r_cons ?_
  | with_reducible refine r_nil ?_
  | with_reducible refine r_plusI ?_
  | with_reducible refine r_I0 ?_
  | with_reducible refine r_test ?_
  | with_reducible refine r_bl ?_
  | with_reducible refine r_ifS ?_
  | with_reducible refine r_cb ?_
  | with_reducible refine r_callS ?_
  | with_reducible refine r_and ?_
  | with_reducible refine r_or ?_
  | with_reducible refine r_not ?_
  | with_reducible refine r_B ?_
  | ((with_reducible refine' r_aug ?hv ?_); (case hv => exact rfl))
  | with_reducible refine r_augS ?_
  | with_reducible refine r_ipI ?_
  | with_reducible refine r_asg ?_
  | with_reducible refine r_sub ?_
  | with_reducible refine r_brk ?_
  | with_reducible refine r_isN1 ?_
  | with_reducible refine r_notN1 ?_
  | with_reducible refine r_intI ?_
  | with_reducible refine r_abs ?_
  | with_reducible refine r_min ?_
  | with_reducible refine r_max ?_
  | ((with_reducible refine' r_mod ?hz ?_); (case hz => omega))
  | ((with_reducible refine' r_pow ?hz ?_); (case hz => exact ⟨by decide, by decide, by decide⟩))
  | ((with_reducible refine' r_rg1 ?hz ?_); (case hz => omega))
  | ((with_reducible refine' r_rg2 ?hz ?_); (case hz => omega))
  | ((with_reducible refine' r_newL ?hz ?_); (case hz => exact Nat.le_of_ble_eq_true rfl))
  | ((with_reducible refine' r_newT ?hz ?_); (case hz => exact Nat.le_of_ble_eq_true rfl))
  | with_reducible refine r_for ?_
  | with_reducible refine r_lc ?_
  | with_reducible refine r_iR1 ?_
  | with_reducible refine r_iR2 ?_
  | with_reducible refine r_iL ?_
  | with_reducible refine r_iT ?_
  | with_reducible refine r_gname ?_
  | with_reducible refine r_gcons ?_
  | with_reducible refine r_gnil ?_
  | with_reducible refine r_yes ?_
  | with_reducible refine r_mkO ?_
  | with_reducible refine r_cont ?_
  | with_reducible refine r_drop ?_
  | with_reducible refine r_retN ?_
  | with_reducible refine r_ifC ?_
  | with_reducible refine r_ifI ?_
  | with_reducible refine r_if ?_
  | with_reducible refine r_un ?_
  | with_reducible refine r_neg ?_
  | with_reducible refine r_andV ?_
  | with_reducible refine r_orV ?_
  | with_reducible refine r_notV ?_
  | with_reducible refine r_tup ?_
  | with_reducible refine r_lst ?_
  | with_reducible refine r_bm ?_
  | with_reducible refine r_bm0 ?_
  | with_reducible refine r_sl ?_
  | with_reducible refine r_chain ?_
  | with_reducible refine r_listDn ?_
  | with_reducible refine r_listRg2 ?_
  | with_reducible refine r_listRg1 ?_
  | with_reducible refine r_revL ?_
  | with_reducible refine r_noPart ?_
  | with_reducible refine r_meth ?_
  | with_reducible refine r_methE ?_
  | with_reducible refine r_js ?_
  | with_reducible refine r_jsC ?_
  | with_reducible refine r_jsN ?_
  | with_reducible refine r_fmt ?_
  | with_reducible refine r_fld ?_
  | with_reducible refine r_sfld ?_
  | with_reducible refine r_make ?_
  | with_reducible refine r_m1 ?_
  | with_reducible refine r_m1s ?_
  | with_reducible refine r_iS ?_
  | with_reducible refine r_iE ?_
  | with_reducible refine r_si ?_
  | with_reducible refine r_strS ?_
  | with_reducible refine r_dgt ?_
  | with_reducible refine r_din ?_
  | with_reducible refine r_dnin ?_
  | with_reducible refine r_dput ?_
  | with_reducible refine r_dnew ?_
  | with_reducible refine r_disp1 ?_
  | with_reducible refine r_lenSet ?_
  | with_reducible refine r_get2 ?_
  | with_reducible refine r_get1 ?_
  | with_reducible refine r_daug ?_
  | with_reducible refine r_iR3 ?_
  | with_reducible refine r_prC ?_
  | with_reducible refine r_prN ?_
  | with_reducible refine r_part ?_
  | with_reducible refine r_int ?_
  | ((with_reducible refine' r_sameS ?hs ?_); (case hs => exact rfl))
  | ((with_reducible refine' r_otherS ?hs ?_); (case hs => exact rfl))
  | with_reducible refine ite_t ?_
  | with_reducible refine ite_f ?_
  | with_reducible refine ite_nt ?_
  | with_reducible refine ite_nf ?_)
local macro_rules | `(tactic| walk_at "st") => `(tactic| repeat (walk_at "s1"))
local macro_rules | `(tactic| walk_at "su") => `(tactic| first
  | with_reducible refine r_seq ?_
  | with_reducible refine r_asgN ?_
  | with_reducible refine r_ret ?_
  | with_reducible refine r_next ?_
  | ((with_reducible refine' r_var ?hv ?_); (case hv => exact rfl))
  | with_reducible refine r_c ?_
  | with_reducible refine r_op ?_
  | with_reducible refine r_cons ?_
  | with_reducible refine r_nil ?_
  | with_reducible refine r_plusI ?_
  | with_reducible refine r_I0 ?_
  | with_reducible refine r_test ?_
  | with_reducible refine r_bl ?_
  | with_reducible refine r_cb ?_
  | with_reducible refine r_callS ?_
  | with_reducible refine r_and ?_
  | with_reducible refine r_or ?_
  | with_reducible refine r_not ?_
  | with_reducible refine r_B ?_
  | ((with_reducible refine' r_aug ?hv ?_); (case hv => exact rfl))
  | with_reducible refine r_augS ?_
  | with_reducible refine r_ipI ?_
  | with_reducible refine r_asg ?_
  | with_reducible refine r_sub ?_
  | with_reducible refine r_brk ?_
  | with_reducible refine r_isN1 ?_
  | with_reducible refine r_notN1 ?_
  | with_reducible refine r_intI ?_
  | with_reducible refine r_abs ?_
  | with_reducible refine r_min ?_
  | with_reducible refine r_max ?_
  | ((with_reducible refine' r_mod ?hz ?_); (case hz => omega))
  | ((with_reducible refine' r_pow ?hz ?_); (case hz => exact ⟨by decide, by decide, by decide⟩))
  | ((with_reducible refine' r_rg1 ?hz ?_); (case hz => omega))
  | ((with_reducible refine' r_rg2 ?hz ?_); (case hz => omega))
  | ((with_reducible refine' r_newL ?hz ?_); (case hz => exact Nat.le_of_ble_eq_true rfl))
  | ((with_reducible refine' r_newT ?hz ?_); (case hz => exact Nat.le_of_ble_eq_true rfl))
  | with_reducible refine r_for ?_
  | with_reducible refine r_lc ?_
  | with_reducible refine r_iR1 ?_
  | with_reducible refine r_iR2 ?_
  | with_reducible refine r_iL ?_
  | with_reducible refine r_iT ?_
  | with_reducible refine r_gname ?_
  | with_reducible refine r_gcons ?_
  | with_reducible refine r_gnil ?_
  | with_reducible refine r_yes ?_
  | with_reducible refine r_mkO ?_
  | with_reducible refine r_cont ?_
  | with_reducible refine r_drop ?_
  | with_reducible refine r_retN ?_
  | with_reducible refine r_ifC ?_
  | with_reducible refine r_ifI ?_
  | with_reducible refine r_if ?_
  | with_reducible refine r_un ?_
  | with_reducible refine r_neg ?_
  | with_reducible refine r_andV ?_
  | with_reducible refine r_orV ?_
  | with_reducible refine r_notV ?_
  | with_reducible refine r_tup ?_
  | with_reducible refine r_lst ?_
  | with_reducible refine r_bm ?_
  | with_reducible refine r_bm0 ?_
  | with_reducible refine r_sl ?_
  | with_reducible refine r_chain ?_
  | with_reducible refine r_listDn ?_
  | with_reducible refine r_listRg2 ?_
  | with_reducible refine r_listRg1 ?_
  | with_reducible refine r_revL ?_
  | with_reducible refine r_noPart ?_
  | with_reducible refine r_meth ?_
  | with_reducible refine r_methE ?_
  | with_reducible refine r_js ?_
  | with_reducible refine r_jsC ?_
  | with_reducible refine r_jsN ?_
  | with_reducible refine r_fmt ?_
  | with_reducible refine r_fld ?_
  | with_reducible refine r_sfld ?_
  | with_reducible refine r_make ?_
  | with_reducible refine r_m1 ?_
  | with_reducible refine r_m1s ?_
  | with_reducible refine r_iS ?_
  | with_reducible refine r_iE ?_
  | with_reducible refine r_si ?_
  | with_reducible refine r_strS ?_
  | with_reducible refine r_dgt ?_
  | with_reducible refine r_din ?_
  | with_reducible refine r_dnin ?_
  | with_reducible refine r_dput ?_
  | with_reducible refine r_dnew ?_
  | with_reducible refine r_disp1 ?_
  | with_reducible refine r_lenSet ?_
  | with_reducible refine r_get2 ?_
  | with_reducible refine r_get1 ?_
  | with_reducible refine r_daug ?_
  | with_reducible refine r_iR3 ?_
  | with_reducible refine r_prC ?_
  | with_reducible refine r_prN ?_
  | with_reducible refine r_part ?_
  | with_reducible refine r_int ?_
  | ((with_reducible refine' r_sameS ?hs ?_); (case hs => exact rfl))
  | ((with_reducible refine' r_otherS ?hs ?_); (case hs => exact rfl))
  | with_reducible refine ite_t ?_
  | with_reducible refine ite_f ?_
  | with_reducible refine ite_nt ?_
  | with_reducible refine ite_nf ?_)
local macro_rules | `(tactic| walk_at "sv") => `(tactic| repeat (walk_at "su"))

section
variable {P : Program} {w : World} {K : PySem.W.Frag} {mg : Str → Option Value} {base : Heap}

/-! ### the program's lines and texts -/
theorem empty_app (x : Str) : Str.empty ++ x = x := TL.ext_tl (by rw [TL.tl_append]; rfl)
theorem take_snoc {α : Type} {l : List α} {i : Nat} {a : α} (h : l[i]? = some a) : l.take (i + 1) = l.take i ++ [a] := by rw [List.take_succ, h]; rfl
theorem words_len {l : List PyData} (h : ∀ d ∈ l, StepR d) : (l.flatMap stepW).length ≤ 3 * l.length := by
  induction l with
  | nil => exact Nat.zero_le _
  | cons a l ih =>
    rw [List.flatMap_cons, List.length_append, List.length_cons]
    have := ih fun d hd => h d (List.mem_cons_of_mem _ hd)
    have := (h a List.mem_cons_self).words.2.1
    omega
theorem sc_row_line : FnScope ["row", "ways", "base", "steps", "words", "step", "word"] ["row"] (defScope s_row_line) := ⟨rfl, rfl, rfl, by decide +kernel, rfl, by decide +kernel, by decide +kernel⟩
theorem ok_row_line (T : Txt w K mg) : CalG P w K mg base 1 "row_line" ["row"] (spLine K RowR rowW) := by
  refine calG_of T.g_row_line T.d_row_line sc_row_line (fun _ _ _ _ _ _ _ us hl => match us, hl with | [_], _ => rfl) (fun vs H Q E h => by obtain ⟨_, _, rfl, _⟩ := h; rfl) (fun cdv A outer s H vs Q E hr h => ?_)
  have nd := sc_row_line.nd
  have hu := hu64 hr
  obtain ⟨x, d, rfl, hx, hR, k⟩ := h
  refine ⟨_, (pss_cons (ps_if (pt_cmpR (otherK (K := K) hu) (pe_ix (ixK (K := K)) (pv 0) pe_int (fun _ _ => rfl)) pe_str (nomark _)) (pss_one (ps_ret (pe_joinK (K := K) pe_str (pe_lc (own := [("word", 6)]) rfl nd (piT (K := K) (pv 0)) (blkOk_by (N := ["row", "ways", "base", "steps", "words", "step", "word"]) (sc := defScope s_row_line) (by decide +kernel)) (fun _ _ _ _ _ => (pg_name (i := 6) nd rfl (Or.inl rfl))) (fun _ _ _ _ _ => pts_nil) (fun _ _ _ _ _ => (pe_callTy cr_str (by rfl) T.f_str (by decide +kernel) (pa_cons (pv 6) pa_nil))))))) pss_nil)
        (pss_cons (ps_set (i := 1) nd rfl (Or.inl rfl) (pe_lst pa_nil))
        (pss_cons (ps_for (passes_of rfl) rfl (piL (K := K) (pe_ix (ixK (K := K)) (pv 0) pe_int (fun _ _ => rfl))) (pgT (K := K) (pg_tup rfl (pgs_cons (pg_name (i := 2) nd rfl (Or.inl rfl)) (pgs_cons (pg_name (i := 3) nd rfl (Or.inl rfl)) pgs_nil)))) (pss_cons (ps_set (i := 4) nd rfl (Or.inl rfl) (pe_lst (pa_cons (pv 2) pa_nil)))
        (pss_cons (ps_for (passes_of rfl) rfl (piL (K := K) (pv 3)) (pg_name (i := 5) nd rfl (Or.inl rfl)) (pss_one (ps_expr (peBM (K := K) (pe_bm PySem.F.plainAttrs_list PySem.F.slot_list_extend PySem.F.type_list_extend mt_extend (pv 4) (pa_cons (pe_lc (own := [("word", 6)]) rfl nd (piT (K := K) (pv 5)) (blkOk_by (N := ["row", "ways", "base", "steps", "words", "step", "word"]) (sc := defScope s_row_line) (by decide +kernel)) (fun _ _ _ _ _ => (pg_name (i := 6) nd rfl (Or.inl rfl))) (fun _ _ _ _ _ => pts_nil) (fun _ _ _ _ _ => (pe_callTy cr_str (by rfl) T.f_str (by decide +kernel) (pa_cons (pv 6) pa_nil)))) pa_nil))))))
        (pss_one (ps_expr (peBM (K := K) (pe_bm PySem.F.plainAttrs_list PySem.F.slot_list_append PySem.F.type_list_append mt_append (pv 1) (pa_cons (pe_joinK (K := K) pe_str (pv 4)) pa_nil))))))))
        (pss_cons (ps_if (pt_cmpR (sameK (K := K) hu) (pe_callB (lenK (K := K)) (by rfl) T.f_len boot_len (pa_cons (pv 1) pa_nil)) pe_int (nomark _)) (pss_one (ps_ret (pe_joinedJ (PJ.cons pe_str (PJ.cons (pe_fmt (pe_ix (ixK (K := K)) (pv 0) pe_int (fun _ _ => rfl))) PJ.nil))))) pss_nil)
        (pss_one (ps_ret (pe_op (plusK (K := K)) (pe_joinedJ (PJ.cons pe_str (PJ.cons (pe_fmt (pe_ix (ixK (K := K)) (pv 0) pe_int (fun _ _ => rfl))) (PJ.cons pe_str PJ.nil)))) (pe_joinK (K := K) pe_str (pv 1))))))))), ?_⟩
  have lf : ("find " : Str).length = 5 := by decide +kernel
  have lsp : (" " : Str).length = 1 := by decide +kernel
  rcases flat_row hR with ⟨kd, r, rfl, kn, sc, er, lr⟩ | ⟨a, l, rfl, ha, hl, ll⟩
  · obtain ⟨p, xs, rfl, hp, hs⟩ := dp_tupE hx
    have hs0 := hs
    obtain ⟨y, ys, rfl, hy, hs⟩ := dpa_consE hs
    obtain rfl := dp_strE hy
    walk_at "st"
    refine r_atT hp (atI_nat (j := 0) rfl) ?_
    walk_at "st"
    refine ite_n (fun _ => ?_) (fun z => absurd (V.str.inj z) kn)
    walk_at "st"
    refine r_ti hp ?_
    intro D hD
    refine wordsZ (fun x => rfl) (fun x => rfl) hp hs0 sc (by rw [List.length_cons]; omega) hD (fun H1 e1 h1 => ?_)
    walk_at "st"
    refine r_join (ys := (PyData.str kd :: r).map wz) (sqL h1) (join_le (m := 40) (n := 4) (k := 1) (fun w hw => ?_) (by rw [List.length_map, List.length_cons]; omega) sp1_len (by decide)) ?_
    · obtain ⟨e, he, rfl⟩ := List.mem_map.mp hw
      exact (sc e he).wok.len
    have k := k H1 e1
    rw [er] at k
    exact k
  · obtain ⟨p, xs, rfl, hp, hs⟩ := dp_tupE hx
    obtain ⟨y, ys, rfl, hy, hs⟩ := dpa_consE hs
    obtain ⟨z, zs, rfl, hz, hs⟩ := dpa_consE hs
    obtain ⟨u, us, rfl, hu', hs⟩ := dpa_consE hs
    obtain rfl := dp_strE hy
    obtain rfl := dp_intE hz
    obtain ⟨lp, ls, rfl, hlp, hls⟩ := dp_lstE hu'
    have ln := dps_len hls
    have na := numZ_len ha
    have la := log30 (n := (a : Int)) (by omega)
    walk_at "st"
    refine r_atT hp (atI_nat (j := 0) rfl) ?_
    walk_at "st"
    refine ite_n (fun n => absurd rfl n) (fun _ => ?_)
    walk_at "st"
    intro W H1 hW e1 h1
    walk_at "st"
    refine r_atT (e1.tu hp) (atI_nat (j := 2) rfl) ?_
    refine r_li (e1.l hlp) ?_
    refine forW_list (fun i σ' H' => ∃ v2 v3 v4 v5 : Option V, σ' = [some (.ref p), some (.ref W), v2, v3, v4, v5, none] ∧ Ext H H' ∧ H' W = some (.lst ((((l.take i).map wayW).map jn).map V.str))) ⟨none, none, none, none, rfl, e1, h1⟩ (fun i σ' H' _ ⟨_, _, _, _, _, e, _⟩ => e.l hlp) ?_ ?_
    · rintro i y σ' H2 hy ⟨v2, v3, v4, v5, rfl, e2, h2⟩
      obtain ⟨dw, hdw, hyd⟩ := dps_at hls hy
      have wR := hl dw (List.mem_of_getElem? hdw)
      have il := (List.getElem?_eq_some_iff.mp hdw).1
      have tk := take_snoc hdw
      have wl := wR.len
      have ww := fun w hw => (wR.no_or w hw).2.1
      cases wR with
      | mk b stl hb hst lst =>
        obtain ⟨wp, wxs, rfl, hwp, hws⟩ := dp_tupE (e2.dp _ hyd)
        obtain ⟨y1, ys1, rfl, hy1, hws⟩ := dpa_consE hws
        obtain ⟨z1, zs1, rfl, hz1, hws⟩ := dpa_consE hws
        obtain rfl := dpa_nilE hws
        obtain rfl := dp_strE hy1
        obtain ⟨sp, sls, rfl, hsp, hss⟩ := dp_lstE hz1
        refine r_gtupA hwp rfl ?_
        walk_at "st"
        intro Wd H3 hWd e3 h3
        walk_at "st"
        have WdW : Wd ≠ W := (ne_of_none h2 hWd).symm
        refine r_li (e3.l hsp) ?_
        refine forW_list (fun j σ' H' => ∃ v5 : Option V, σ' = [some (.ref p), some (.ref W), some (.str b), some (.ref sp), some (.ref Wd), v5, none] ∧ Ext H2 H' ∧ H' Wd = some (.lst ((b :: (stl.take j).flatMap stepW).map V.str))) ⟨v5, rfl, e3, h3⟩ (fun j σ' H' _ ⟨_, _, e, _⟩ => e.l hsp) ?_ ?_
        · rintro j y σ' H4 hy ⟨v5, rfl, e4, h4⟩
          obtain ⟨s, hs1, hys⟩ := dps_at hss hy
          have sR := hst s (List.mem_of_getElem? hs1)
          have jl := (List.getElem?_eq_some_iff.mp hs1).1
          have tk2 := take_snoc hs1
          have w2 := sR.words.2.1
          obtain ⟨kk, r, rfl, sc, lns, _⟩ := sR.sc
          obtain ⟨qp, qxs, rfl, hqp, hqx⟩ := dp_tupE (e4.dp _ hys)
          walk_at "st"
          refine ⟨.inl ⟨rfl, _, sqL h4⟩, ?_⟩
          walk_at "st"
          refine r_ti hqp ?_
          intro D2 hD2
          refine wordsZ (fun x => rfl) (fun x => rfl) hqp hqx sc (by rw [lns]; unfold stpN; split <;> omega) hD2 (fun H5 e5 h5 => ?_)
          walk_at "st"
          have w3 := words_len (l := stl.take j) fun d hd => hst d (List.mem_of_mem_take hd)
          have lt : (stl.take j).length ≤ 10 := by rw [List.length_take]; omega
          refine r_ext (e5 _ _ h4) h5 (by
            rw [List.length_map, List.length_cons, List.length_map]
            have : ((PyData.str kk :: r).map wz).length ≤ 3 := w2
            omega) (fun H6 h6 n6 => ⟨_, rfl, mut_ext (e4.trans e5) hWd n6, ?_⟩)
          rw [h6, tk2, List.flatMap_append, ← List.map_append, List.cons_append]
          show some (HO.lst ((b :: ((stl.take j).flatMap stepW ++ (PyData.str kk :: r).map wz)).map V.str)) = some (HO.lst ((b :: ((stl.take j).flatMap stepW ++ ([PyData.tuple (.str kk :: r)]).flatMap stepW)).map V.str))
          rw [List.flatMap_cons, List.flatMap_nil, List.append_nil]
          rfl
        · rintro σ' H4 ⟨v5, rfl, e4, h4⟩
          rw [dps_len hss, List.take_length] at h4
          walk_at "st"
          refine ⟨.inl ⟨rfl, _, sqL (e4 _ _ h2)⟩, ?_⟩
          walk_at "st"
          refine r_join (ys := wayW (.tuple [.str b, .list stl])) (sqL h4) (join_le (m := 40) (n := 31) (k := 1) (fun w hw => (ww w hw).len) wl.1 sp1_len (by decide)) ?_
          walk_at "st"
          refine r_app (e4 _ _ h2) (by rw [List.length_map, List.length_map, List.length_map, List.length_take]; omega) (fun H5 h5 n5 => ⟨_, _, _, _, rfl, mut_ext (e2.trans e4) hW n5, ?_⟩)
          rw [h5, tk, List.map_append, List.map_append, List.map_append]
          rfl
    · rintro σ' H2 ⟨v2, v3, v4, v5, rfl, e2, h2⟩
      rw [ln, List.take_length] at h2
      walk_at "st"
      refine r_lenL (sqL h2) (n := (l.length : Nat)) (by rw [List.length_map, List.length_map, List.length_map]) ?_
      walk_at "st"
      refine ite_d (fun c => ?_) (fun c => ?_)
      · have l0 : l = [] := List.eq_nil_of_length_eq_zero (by have := V.int.inj c; omega)
        subst l0
        walk_at "st"
        refine r_jsS (by rw [empty_app, lf]; omega) ?_
        walk_at "st"
        refine r_atT (e2.tu hp) (atI_nat (j := 1) rfl) ?_
        refine r_fmtI la ?_
        refine r_jsS (y := numZ (a : Nat)) (by rw [empty_app, len_app, lf]; omega) ?_
        walk_at "st"
        have k := k H2 e2
        rw [show rowW (.tuple [.str "find", .int (a : Nat), .list []]) = [("find" : Str), numZ (a : Nat)] from rfl, ← find_jn0] at k
        rw [empty_app]
        exact k
      have ne : l.map wayW ≠ [] := fun z => c (by rw [List.map_eq_nil_iff.mp z]; rfl)
      have hn : ∀ g ∈ l.map wayW, g ≠ [] := fun g hg => by
        obtain ⟨d, hd, rfl⟩ := List.mem_map.mp hg
        exact (hl d hd).len.2
      walk_at "st"
      refine r_jsS (by rw [empty_app, lf]; omega) ?_
      walk_at "st"
      refine r_atT (e2.tu hp) (atI_nat (j := 1) rfl) ?_
      refine r_fmtI la ?_
      refine r_jsS (y := numZ (a : Nat)) (by rw [empty_app, len_app, lf]; omega) ?_
      walk_at "st"
      refine r_jsS (y := (" " : Str)) (by rw [empty_app, len_app, len_app, lf, lsp]; omega) ?_
      walk_at "st"
      refine r_join (a := orT) (sqL h2) (ways_join hl ll) ?_
      have wl := ways_len hl ll
      rw [empty_app]
      refine r_plusS (i := ("find " : Str) ++ numZ (a : Nat) ++ (" " : Str)) (by rw [len_app, len_app, lf, lsp]; omega) ?_
      have k := k H2 e2
      rw [show rowW (.tuple [.str "find", .int (a : Nat), .list l]) = ("find" : Str) :: numZ (a : Nat) :: joinOr (l.map wayW) from rfl, ← find_jn ne hn] at k
      exact k
/-! whole texts -/
def lnsC (rows : List PyData) (a b : Nat) : List Str := jn (headW a b) :: rows.map fun d => jn (rowW d)
def txtC (rows : List PyData) (a b : Nat) : Str := Txt.join (Str.ofString "\n") (lnsC rows a b)
theorem row_len {d : PyData} (h : RowR d) : (jn (rowW d)).length ≤ 9430 := jn_w (fun w hw => (h.words.1 w hw).1) h.words.2.1
theorem head_len {a b : Nat} (h1 : a ≤ 10 ^ 30) (h2 : b ≤ 10 ^ 30) : (jn (headW a b)).length ≤ 123 := jn_w (fun w hw => (head_words h1 h2 w hw).1) (Nat.le_refl 3)
theorem lns_len {rows : List PyData} {a b : Nat} (h1 : a ≤ 10 ^ 30) (h2 : b ≤ 10 ^ 30) (hR : ∀ d ∈ rows, RowR d) : ∀ l ∈ lnsC rows a b, l.length ≤ 9430 := fun l hl => by
  rcases List.mem_cons.mp hl with rfl | hl
  · have := head_len h1 h2
    omega
  · obtain ⟨d, hd, rfl⟩ := List.mem_map.mp hl
    exact row_len (hR d hd)
theorem lns_join {rows : List PyData} {a b : Nat} (h1 : a ≤ 10 ^ 30) (h2 : b ≤ 10 ^ 30) (hR : ∀ d ∈ rows, RowR d) (hl : rows.length ≤ 50) : ((lnsC rows a b).map (·.length)).sum + (lnsC rows a b).length * (Str.ofString "\n").length ≤ 16777216 :=
  join_le (m := 9430) (n := 51) (k := 1) (lns_len h1 h2 hR) (by show (rows.map _).length + 1 ≤ 51; rw [List.length_map]; omega) (by decide +kernel) (by decide)
theorem head_jn {a b : Nat} : ("code " : Str) ++ numZ (a : Nat) ++ (" " : Str) ++ numZ (b : Nat) = jn (headW a b) := by
  have e : ("code " : Str) = ("code" : Str) ++ sp1 := by decide +kernel
  show _ = jn [("code" : Str), numZ (a : Nat), numZ (b : Nat)]
  rw [jn_cons (List.cons_ne_nil _ _), jn_cons (List.cons_ne_nil _ _), jn_one, e, show (" " : Str) = sp1 from rfl, app_assoc, app_assoc, app_assoc]
def spCText (K : PySem.W.Frag) : Sp := fun vs H Q _ => ∃ (x : V) (rows : List PyData) (a b : Nat), vs = [x, .int (a : Nat), .int (b : Nat)] ∧ Dp K H x (.list rows) ∧ (∀ d ∈ rows, RowR d) ∧ rows.length ≤ 50 ∧ a ≤ 10 ^ 30 ∧ b ≤ 10 ^ 30 ∧ ∀ H', Ext H H' → Q (.str (txtC rows a b)) H'
theorem map_rows {H2 : Hp} {D : Addr} {l : List PyData} {n : Nat} (hn : n = l.length) (h : H2 D = some (.lst ((List.range n).map fun i => V.str (jn (rowW (l.getD i .none)))))) : H2 D = some (.lst ((l.map fun d => jn (rowW d)).map V.str)) := by
  rw [h, hn]
  congr 2
  apply List.ext_getElem?
  intro j
  by_cases c : j < l.length
  · rw [List.getElem?_map, List.getElem?_range c, List.getElem?_map, List.getElem?_map, List.getElem?_eq_getElem c]
    show some (V.str (jn (rowW (l.getD j .none)))) = _
    rw [List.getD_eq_getElem?_getD, List.getElem?_eq_getElem c]
    rfl
  · rw [List.getElem?_eq_none (by rw [List.length_map, List.length_range]; omega), List.getElem?_eq_none (by rw [List.length_map, List.length_map]; omega)]
theorem sc__law_code_text : FnScope ["rows", "head", "tail", "row"] ["rows", "head", "tail"] (defScope s__law_code_text) := ⟨rfl, rfl, rfl, by decide +kernel, rfl, by decide +kernel, by decide +kernel⟩
theorem ok__law_code_text (T : Txt w K mg) : CalG P w K mg base 3 "_law_code_text" ["rows", "head", "tail"] (spCText K) := by
  have c__law_code_line := ok__law_code_line (P := P) (base := base) T
  refine calG_of T.g__law_code_text T.d__law_code_text sc__law_code_text (fun _ _ _ _ _ _ _ us hl => match us, hl with | [_, _, _], _ => rfl) (fun vs H Q E h => by obtain ⟨_, _, _, _, rfl, _⟩ := h; rfl) (fun cdv A outer s H vs Q E hr h => ?_)
  have nd := sc__law_code_text.nd
  have hu := hu64 hr
  obtain ⟨x, rows, a, b, rfl, hx, hR, ll, ha, hb, k⟩ := h
  obtain ⟨p, xs, rfl, hp, hs⟩ := dp_lstE hx
  have ln := dps_len hs
  have na := numZ_len ha
  have nb := numZ_len hb
  have lc : ("code " : Str).length = 5 := by decide +kernel
  have lsp : (" " : Str).length = 1 := by decide +kernel
  refine ⟨_, (pss_one (ps_ret (pe_joinK (K := K) pe_str (pe_op (plusK (K := K)) (pe_lst (pa_cons (pe_op (plusK (K := K)) (pe_op (plusK (K := K)) (pe_op (plusK (K := K)) pe_str (pe_callTy cr_str (by rfl) T.f_str (by decide +kernel) (pa_cons (pv 1) pa_nil))) pe_str) (pe_callTy cr_str (by rfl) T.f_str (by decide +kernel) (pa_cons (pv 2) pa_nil))) pa_nil)) (pe_lc (own := [("row", 3)]) rfl nd (piL (K := K) (pv 0)) (blkOk_by (N := ["rows", "head", "tail", "row"]) (sc := defScope s__law_code_text) (by decide +kernel)) (fun _ _ _ _ _ => (pg_name (i := 3) nd rfl (Or.inl rfl))) (fun _ _ _ _ _ => pts_nil) (fun _ _ _ _ _ => (pe_cal c__law_code_line hr (by omega) passN (pa_cons (pv 3) pa_nil)))))))), ?_⟩
  walk_at "st"
  refine r_strI (log30 (n := (a : Int)) (by omega)) ?_
  refine r_plusS (i := ("code " : Str)) (j := numZ (a : Nat)) (by rw [lc]; omega) ?_
  walk_at "st"
  refine r_plusS (i := ("code " : Str) ++ numZ (a : Nat)) (j := (" " : Str)) (by rw [len_app, lc, lsp]; omega) ?_
  walk_at "st"
  refine r_strI (log30 (n := (b : Int)) (by omega)) ?_
  refine r_plusS (i := ("code " : Str) ++ numZ (a : Nat) ++ (" " : Str)) (j := numZ (b : Nat)) (by rw [len_app, len_app, lc, lsp]; omega) ?_
  rw [head_jn]
  walk_at "st"
  intro q H1 hq e1 h1
  walk_at "st"
  refine r_li (e1.l hp) ?_
  intro D hD
  refine lcW_list (LcP H1 D fun i => .str (jn (rowW (rows.getD i .none)))) (.start hD) (fun i H' _ q => (e1.trans q.e).l hp) (fun i y H2 hy q => ?_) (fun H2 q => ?_)
  · obtain ⟨s, hs1, hys⟩ := dps_at hs hy
    walk_at "st"
    refine r_lcW rfl ?_
    walk_at "st"
    refine ⟨y, s, rfl, (e1.trans q.e).dp _ hys, hR s (List.mem_of_getElem? hs1), fun H3 e3 => ?_⟩
    refine q.push hD (by have := (List.getElem?_eq_some_iff.mp hs1).1; omega) e3 ?_
    rw [List.getD_eq_getElem?_getD, hs1]
    rfl
  · have d2 := map_rows ln q.d
    walk_at "st"
    refine r_catL (q.e _ _ h1) d2 (by rw [List.length_map, List.length_map]; show 1 + _ ≤ _; omega) (fun u H3 hu3 e3 h3 => ?_)
    walk_at "st"
    have h3' : H3 u = some (.lst ((lnsC rows a b).map V.str)) := h3
    refine r_join (ys := lnsC rows a b) (sqL h3') (lns_join ha hb hR ll) ?_
    exact k H3 ((e1.trans q.e).trans e3)
/-! code_text -/
def spCodeT (K : PySem.W.Frag) : Sp := fun vs H Q E => ∃ (S : Addr → Prop) (o : Addr) (rows : List PyData) (a b : Nat), vs = [.ref o] ∧ CodeAt K S H o rows (a : Nat) (b : Nat) ∧ smallD 7 (.list rows) ∧ a ≤ 10 ^ 30 ∧ b ≤ 10 ^ 30 ∧ ((∀ d ∈ rows, RowR d) ∧ rows.length ≤ 50 ∧ (∀ H', Ext H H' → Q (.str (txtC rows a b)) H') ∨
  ∃ i d, (∀ e ∈ rows.take i, RowR e) ∧ i ≤ 50 ∧ rows[i]? = some d ∧ rowB d = false ∧ ∀ dd H', H dd = none → Ext H H' → H' dd = some (.xd [("what", .str "kind"), ("row", .int (i : Nat))]) → E (.ref (He.ga K "BadCode")) (some dd) H')
theorem RowR.right {d : PyData} (h : RowR d) : rowB d = true := by
  have := h.back
  unfold rowF at this
  split at this
  · split at this
    · rename_i hb; rw [← Option.some.inj this]; exact hb
    · cases this
  · split at this
    · split at this
      · cases this
      · split at this
        · rename_i hb; rw [← Option.some.inj this]; exact hb
        · cases this
    · cases this
theorem sc_code_text : FnScope ["code", "rows", "lines", "at"] ["code"] (defScope s_code_text) := ⟨rfl, rfl, rfl, by decide +kernel, rfl, by decide +kernel, by decide +kernel⟩
theorem ok_code_text (T : Txt w K mg) : CalG P w K mg base 11 "code_text" ["code"] (spCodeT K) := by
  have c_ReadCode_rows := ok_ReadCode_rows (P := P) (base := base) T
  have c_ReadCode_head := ok_ReadCode_head (P := P) (base := base) T
  have c_ReadCode_tail := ok_ReadCode_tail (P := P) (base := base) T
  have c_right_row := ok_right_row (P := P) (base := base) T
  have c_row_line := ok_row_line (P := P) (base := base) T
  have c_BadCode : ErrI P w K mg base "BadCode" ["self", "row", "what"] _ := ci_BadCode T
  refine calG_of T.g_code_text T.d_code_text sc_code_text (fun _ _ _ _ _ _ _ us hl => match us, hl with | [_], _ => rfl) (fun vs H Q E h => by obtain ⟨_, _, _, _, _, rfl, _⟩ := h; rfl) (fun cdv A outer s H vs Q E hr h => ?_)
  have nd := sc_code_text.nd
  have hu := hu64 hr
  obtain ⟨S, o, rows, a, b, rfl, cAt, sm, ha, hb, k⟩ := h
  obtain ⟨dx, y0, ins, nw0⟩ := cAt.ex
  have na := numZ_len ha
  have nb := numZ_len hb
  have lc : ("code " : Str).length = 5 := by decide +kernel
  have lsp : (" " : Str).length = 1 := by decide +kernel
  refine ⟨_, (pss_cons (ps_set (i := 1) nd rfl (Or.inl rfl) (pe_calM0K (K := K) T.c_ReadCode T.mt_ReadCode_rows c_ReadCode_rows hr (by omega) (pv 0)))
        (pss_cons (ps_set (i := 2) nd rfl (Or.inl rfl) (pe_lst (pa_cons (pe_joinedJ (PJ.cons pe_str (PJ.cons (pe_fmt (pe_calM0K (K := K) T.c_ReadCode T.mt_ReadCode_head c_ReadCode_head hr (by omega) (pv 0))) (PJ.cons pe_str (PJ.cons (pe_fmt (pe_calM0K (K := K) T.c_ReadCode T.mt_ReadCode_tail c_ReadCode_tail hr (by omega) (pv 0))) PJ.nil))))) pa_nil)))
        (pss_cons (ps_for (passes_of rfl) rfl (pi_range1 (by rfl) T.f_range (pa_cons (pe_callB (lenK (K := K)) (by rfl) T.f_len boot_len (pa_cons (pv 1) pa_nil)) pa_nil)) (pg_name (i := 3) nd rfl (Or.inl rfl)) (pss_cons (ps_if (pt_not (pt_val (pe_cal c_right_row hr (by omega) (fun σ => L2N.passAt (L2N.takes_of rfl rfl rfl rfl) σ) (pa_cons (pe_ix (ixK (K := K)) (pv 1) (pv 3) (fun _ _ => rfl)) pa_nil)))) (pss_one (L2N.ps_raise rfl (L2N.takes_of rfl rfl rfl rfl) (pmk_errI T.e_BadCode c_BadCode hr (by decide) T.g_BadCode (pa_cons (pv 3) (pa_cons pe_str pa_nil))))) pss_nil)
        (pss_one (ps_expr (peBM (K := K) (pe_bm PySem.F.plainAttrs_list PySem.F.slot_list_append PySem.F.type_list_append mt_append (pv 2) (pa_cons (pe_cal c_row_line hr (by omega) (fun σ => L2N.passAt (L2N.takes_of rfl rfl rfl rfl) σ) (pa_cons (pe_ix (ixK (K := K)) (pv 1) (pv 3) (fun _ _ => rfl)) pa_nil)) pa_nil)))))))
        (pss_one (ps_ret (pe_joinK (K := K) pe_str (pv 2))))))), ?_⟩
  walk_at "st"
  refine r_mt ins rfl (r_nil ?_)
  refine ⟨S, o, rows, _, _, rfl, cAt, sm, fun y H1 e1 w1 => ?_⟩
  walk_at "st"
  refine r_jsS (by rw [empty_app, lc]; omega) ?_
  walk_at "st"
  refine r_mt (e1 _ _ ins) rfl (r_nil ?_)
  have cAt1 : CodeAt K S H1 o rows (a : Nat) (b : Nat) := ⟨dx, y0, e1 _ _ ins, nw_ext nw0 e1⟩
  refine ⟨S, o, rows, _, _, rfl, cAt1, ?_⟩
  refine r_fmtI (log30 (n := (a : Int)) (by omega)) ?_
  refine r_jsS (y := numZ (a : Nat)) (by rw [empty_app, len_app, lc]; omega) ?_
  walk_at "st"
  refine r_jsS (y := (" " : Str)) (by rw [empty_app, len_app, len_app, lc, lsp]; omega) ?_
  walk_at "st"
  refine r_mt (e1 _ _ ins) rfl (r_nil ?_)
  refine ⟨S, o, rows, _, _, rfl, cAt1, ?_⟩
  refine r_fmtI (log30 (n := (b : Int)) (by omega)) ?_
  refine r_jsS (y := numZ (b : Nat)) (by rw [empty_app, len_app, len_app, len_app, lc, lsp]; omega) ?_
  rw [empty_app, head_jn]
  walk_at "st"
  intro L H2 hL e2 h2
  obtain ⟨rp, rxs, rfl, rS, hrp, hrn⟩ := nw_lstE w1
  have ln : rxs.length = rows.length := hrn.len
  have h2r := e2 _ _ hrp
  have rL : rp ≠ L := ne_of_none hrp hL
  have sm1 : rows.length ≤ 100000 := sm.1
  have e12 := e1.trans e2
  walk_at "st"
  refine r_lenL (sqL h2r) (n := (rows.length : Nat)) (by rw [ln]) ?_
  walk_at "st"
  have hRi : ∀ i, i < rows.length → (∀ e ∈ rows.take i, RowR e) → (∀ d ∈ rows, RowR d) ∧ rows.length ≤ 50 ∨ ∃ j, i ≤ j ∧ j ≤ 50 := fun i hi hp => by
    rcases k with ⟨h1, h2, _⟩ | ⟨j, d, h1, h2, h3, h4, _⟩
    · exact .inl ⟨h1, h2⟩
    · refine .inr ⟨j, ?_, h2⟩
      rcases Nat.lt_or_ge j i with c | c
      · have hm : d ∈ rows.take i := List.mem_of_getElem? (i := j) (by rw [List.getElem?_take_of_lt c]; exact h3)
        have := (hp d hm).right
        rw [h4] at this
        cases this
      · exact c
  refine forW_range (fun i σ' H' => ∃ v3 : Option V, σ' = [some (.ref o), some (.ref rp), some (.ref L), v3] ∧ (∀ b o, b ≠ L → H2 b = some o → H' b = some o) ∧ H' L = some (.lst ((jn (headW a b) :: (rows.take i).map fun d => jn (rowW d)).map V.str)) ∧ (∀ e ∈ rows.take i, RowR e)) ⟨none, rfl, (fun b o _ h => h), h2, by simp⟩ ?_ ?_
  · rintro i σ' H3 hi ⟨v3, rfl, u3, h3, hT⟩
    have ii : i < rows.length := by omega
    have hr3 := u3 _ _ rL h2r
    have e03 : Ext H H3 := fun b o h => u3 _ _ (ne_of_none (e1 _ _ h) hL) (e12 _ _ h)
    obtain ⟨y, hy, ny⟩ := hrn.get (List.getElem?_eq_getElem ii)
    have ny3 : Dp K H3 y rows[i] := (ny.keep (S' := fun _ => True) (fun b o s z => ⟨u3 _ _ (ne_of_none z hL) (e2 _ _ z), trivial⟩) _).dp _
    have tk := take_snoc (List.getElem?_eq_getElem ii)
    have li : i ≤ 50 := by
      rcases hRi i ii hT with ⟨_, h⟩ | ⟨j, h1, h2⟩
      · omega
      · omega
    walk_at "st"
    rw [show (0 : Int) + (i : Int) = ((i : Nat) : Int) by omega]
    refine r_atL (sqL hr3) (atI_nat hy) ?_
    walk_at "st"
    refine ⟨y, rows[i], rfl, ny3, fun H4 e4 => ?_⟩
    walk_at "st"
    have e04 := e03.trans e4
    cases hb' : rowB rows[i] with
    | false =>
      walk_at "st"
      rcases k with ⟨h1, _⟩ | ⟨j, d, h1, h2', h3', h4, kE⟩
      · have := (h1 _ (List.getElem_mem ii)).right
        rw [hb'] at this
        cases this
      · have ej : j = i := by
          rcases Nat.lt_trichotomy j i with c | c | c
          · have hm : d ∈ rows.take i := List.mem_of_getElem? (i := j) (by rw [List.getElem?_take_of_lt c]; exact h3')
            have := (hT d hm).right
            rw [h4] at this
            cases this
          · exact c
          · have hm : rows[i] ∈ rows.take j := List.mem_of_getElem? (i := i) (by rw [List.getElem?_take_of_lt c]; exact List.getElem?_eq_getElem ii)
            have := (h1 _ hm).right
            rw [hb'] at this
            cases this
        subst ej
        exact r_mk2 fun dd H5 hdd e5 h5 => kE dd H5 (e04.none hdd) (e04.trans e5) h5
    | true =>
      walk_at "st"
      have hRow : RowR rows[i] := by
        rcases k with ⟨h1, _⟩ | ⟨j, d, h1, h2', h3', h4, kE⟩
        · exact h1 _ (List.getElem_mem ii)
        · rcases Nat.lt_trichotomy j i with c | c | c
          · have hm : d ∈ rows.take i := List.mem_of_getElem? (i := j) (by rw [List.getElem?_take_of_lt c]; exact h3')
            have := (hT d hm).right
            rw [h4] at this
            cases this
          · subst c
            rw [List.getElem?_eq_getElem ii] at h3'
            rw [Option.some.inj h3', h4] at hb'
            cases hb'
          · exact h1 _ (List.mem_of_getElem? (i := i) (by rw [List.getElem?_take_of_lt c]; exact List.getElem?_eq_getElem ii))
      have h4 := e4 _ _ h3
      refine ⟨.inl ⟨rfl, _, sqL h4⟩, ?_⟩
      walk_at "st"
      refine r_atL (sqL (e4 _ _ hr3)) (atI_nat hy) ?_
      walk_at "st"
      refine ⟨y, rows[i], rfl, e4.dp _ ny3, hRow, fun H5 e5 => ?_⟩
      walk_at "st"
      refine r_app (e5 _ _ h4) (by rw [List.length_map, List.length_cons, List.length_map, List.length_take]; omega) (fun H6 h6 n6 => ⟨_, rfl, fun b o bL h => (n6 _ bL).trans (e5 _ _ (e4 _ _ (u3 _ _ bL h))), ?_, ?_⟩)
      · rw [h6, tk, List.map_append, List.map_cons, List.map_cons, List.map_append]
        rfl
      · intro e he
        rw [tk] at he
        rcases List.mem_append.mp he with he | he
        · exact hT e he
        · rw [List.mem_singleton.mp he]
          exact hRow
  · rintro σ' H3 ⟨v3, rfl, u3, h3, hT⟩
    rw [show ((rows.length : Nat) : Int).toNat = rows.length by omega, List.take_length] at h3 hT
    walk_at "st"
    rcases k with ⟨h1, h2', kQ⟩ | ⟨j, d, h1, h2', h3', h4, kE⟩
    · refine r_join (ys := lnsC rows a b) (sqL (show _ = some (HO.lst ((lnsC rows a b).map V.str)) from h3)) (lns_join ha hb h1 h2') ?_
      exact kQ H3 fun b o h => u3 _ _ (ne_of_none (e1 _ _ h) hL) (e12 _ _ h)
    · have := (hT d (List.mem_of_getElem? h3')).right
      rw [h4] at this
      cases this

end
end K35
set_option maxRecDepth 100000
set_option maxHeartbeats 4000000
namespace K35
open PySem PySem.Spec PyProof.Rows L2 L3
local macro_rules | `(tactic| walk_at "s1") => `(tactic| first
  | with_reducible refine r_seq ?_
  | with_reducible refine r_asgN ?_
  | with_reducible refine r_ret ?_
  | with_reducible refine r_next ?_
  | ((with_reducible refine' r_var ?hv ?_); (case hv => exact rfl))
  | with_reducible refine r_c ?_
  | with_reducible refine r_op ?_
  | with_reducible refine r_cons ?_
  | with_reducible refine r_nil ?_
  | with_reducible refine r_plusI ?_
  | with_reducible refine r_I0 ?_
  | with_reducible refine r_test ?_
  | with_reducible refine r_bl ?_
  | with_reducible refine r_ifS ?_
  | with_reducible refine r_cb ?_
  | with_reducible refine r_callS ?_
  | with_reducible refine r_and ?_
  | with_reducible refine r_or ?_
  | with_reducible refine r_not ?_
  | with_reducible refine r_B ?_
  | ((with_reducible refine' r_aug ?hv ?_); (case hv => exact rfl))
  | with_reducible refine r_augS ?_
  | with_reducible refine r_ipI ?_
  | with_reducible refine r_asg ?_
  | with_reducible refine r_sub ?_
  | with_reducible refine r_brk ?_
  | with_reducible refine r_isN1 ?_
  | with_reducible refine r_notN1 ?_
  | with_reducible refine r_intI ?_
  | with_reducible refine r_abs ?_
  | with_reducible refine r_min ?_
  | with_reducible refine r_max ?_
  | ((with_reducible refine' r_mod ?hz ?_); (case hz => omega))
  | ((with_reducible refine' r_pow ?hz ?_); (case hz => exact ⟨by decide, by decide, by decide⟩))
  | ((with_reducible refine' r_rg1 ?hz ?_); (case hz => omega))
  | ((with_reducible refine' r_rg2 ?hz ?_); (case hz => omega))
  | ((with_reducible refine' r_newL ?hz ?_); (case hz => exact Nat.le_of_ble_eq_true rfl))
  | ((with_reducible refine' r_newT ?hz ?_); (case hz => exact Nat.le_of_ble_eq_true rfl))
  | with_reducible refine r_for ?_
  | with_reducible refine r_lc ?_
  | with_reducible refine r_iR1 ?_
  | with_reducible refine r_iR2 ?_
  | with_reducible refine r_iL ?_
  | with_reducible refine r_iT ?_
  | with_reducible refine r_gname ?_
  | with_reducible refine r_gcons ?_
  | with_reducible refine r_gnil ?_
  | with_reducible refine r_yes ?_
  | with_reducible refine r_mkO ?_
  | with_reducible refine r_cont ?_
  | with_reducible refine r_drop ?_
  | with_reducible refine r_retN ?_
  | with_reducible refine r_ifC ?_
  | with_reducible refine r_ifI ?_
  | with_reducible refine r_if ?_
  | with_reducible refine r_un ?_
  | with_reducible refine r_neg ?_
  | with_reducible refine r_andV ?_
  | with_reducible refine r_orV ?_
  | with_reducible refine r_notV ?_
  | with_reducible refine r_tup ?_
  | with_reducible refine r_lst ?_
  | with_reducible refine r_bm ?_
  | with_reducible refine r_bm0 ?_
  | with_reducible refine r_sl ?_
  | with_reducible refine r_chain ?_
  | with_reducible refine r_listDn ?_
  | with_reducible refine r_listRg2 ?_
  | with_reducible refine r_listRg1 ?_
  | with_reducible refine r_revL ?_
  | with_reducible refine r_noPart ?_
  | with_reducible refine r_meth ?_
  | with_reducible refine r_methE ?_
  | with_reducible refine r_js ?_
  | with_reducible refine r_jsC ?_
  | with_reducible refine r_jsN ?_
  | with_reducible refine r_fmt ?_
  | with_reducible refine r_fld ?_
  | with_reducible refine r_sfld ?_
  | with_reducible refine r_make ?_
  | with_reducible refine r_m1 ?_
  | with_reducible refine r_m1s ?_
  | with_reducible refine r_iS ?_
  | with_reducible refine r_iE ?_
  | with_reducible refine r_si ?_
  | with_reducible refine r_strS ?_
  | with_reducible refine r_dgt ?_
  | with_reducible refine r_din ?_
  | with_reducible refine r_dnin ?_
  | with_reducible refine r_dput ?_
  | with_reducible refine r_dnew ?_
  | with_reducible refine r_disp1 ?_
  | with_reducible refine r_lenSet ?_
  | with_reducible refine r_get2 ?_
  | with_reducible refine r_get1 ?_
  | with_reducible refine r_daug ?_
  | with_reducible refine r_iR3 ?_
  | with_reducible refine r_prC ?_
  | with_reducible refine r_prN ?_
  | with_reducible refine r_part ?_
  | with_reducible refine r_int ?_
  | ((with_reducible refine' r_sameS ?hs ?_); (case hs => exact rfl))
  | ((with_reducible refine' r_otherS ?hs ?_); (case hs => exact rfl))
  | with_reducible refine ite_t ?_
  | with_reducible refine ite_f ?_
  | with_reducible refine ite_nt ?_
  | with_reducible refine ite_nf ?_)
local macro_rules | `(tactic| walk_at "st") => `(tactic| repeat (walk_at "s1"))
local macro_rules | `(tactic| walk_at "su") => `(tactic| first
  | with_reducible refine r_seq ?_
  | with_reducible refine r_asgN ?_
  | with_reducible refine r_ret ?_
  | with_reducible refine r_next ?_
  | ((with_reducible refine' r_var ?hv ?_); (case hv => exact rfl))
  | with_reducible refine r_c ?_
  | with_reducible refine r_op ?_
  | with_reducible refine r_cons ?_
  | with_reducible refine r_nil ?_
  | with_reducible refine r_plusI ?_
  | with_reducible refine r_I0 ?_
  | with_reducible refine r_test ?_
  | with_reducible refine r_bl ?_
  | with_reducible refine r_cb ?_
  | with_reducible refine r_callS ?_
  | with_reducible refine r_and ?_
  | with_reducible refine r_or ?_
  | with_reducible refine r_not ?_
  | with_reducible refine r_B ?_
  | ((with_reducible refine' r_aug ?hv ?_); (case hv => exact rfl))
  | with_reducible refine r_augS ?_
  | with_reducible refine r_ipI ?_
  | with_reducible refine r_asg ?_
  | with_reducible refine r_sub ?_
  | with_reducible refine r_brk ?_
  | with_reducible refine r_isN1 ?_
  | with_reducible refine r_notN1 ?_
  | with_reducible refine r_intI ?_
  | with_reducible refine r_abs ?_
  | with_reducible refine r_min ?_
  | with_reducible refine r_max ?_
  | ((with_reducible refine' r_mod ?hz ?_); (case hz => omega))
  | ((with_reducible refine' r_pow ?hz ?_); (case hz => exact ⟨by decide, by decide, by decide⟩))
  | ((with_reducible refine' r_rg1 ?hz ?_); (case hz => omega))
  | ((with_reducible refine' r_rg2 ?hz ?_); (case hz => omega))
  | ((with_reducible refine' r_newL ?hz ?_); (case hz => exact Nat.le_of_ble_eq_true rfl))
  | ((with_reducible refine' r_newT ?hz ?_); (case hz => exact Nat.le_of_ble_eq_true rfl))
  | with_reducible refine r_for ?_
  | with_reducible refine r_lc ?_
  | with_reducible refine r_iR1 ?_
  | with_reducible refine r_iR2 ?_
  | with_reducible refine r_iL ?_
  | with_reducible refine r_iT ?_
  | with_reducible refine r_gname ?_
  | with_reducible refine r_gcons ?_
  | with_reducible refine r_gnil ?_
  | with_reducible refine r_yes ?_
  | with_reducible refine r_mkO ?_
  | with_reducible refine r_cont ?_
  | with_reducible refine r_drop ?_
  | with_reducible refine r_retN ?_
  | with_reducible refine r_ifC ?_
  | with_reducible refine r_ifI ?_
  | with_reducible refine r_if ?_
  | with_reducible refine r_un ?_
  | with_reducible refine r_neg ?_
  | with_reducible refine r_andV ?_
  | with_reducible refine r_orV ?_
  | with_reducible refine r_notV ?_
  | with_reducible refine r_tup ?_
  | with_reducible refine r_lst ?_
  | with_reducible refine r_bm ?_
  | with_reducible refine r_bm0 ?_
  | with_reducible refine r_sl ?_
  | with_reducible refine r_chain ?_
  | with_reducible refine r_listDn ?_
  | with_reducible refine r_listRg2 ?_
  | with_reducible refine r_listRg1 ?_
  | with_reducible refine r_revL ?_
  | with_reducible refine r_noPart ?_
  | with_reducible refine r_meth ?_
  | with_reducible refine r_methE ?_
  | with_reducible refine r_js ?_
  | with_reducible refine r_jsC ?_
  | with_reducible refine r_jsN ?_
  | with_reducible refine r_fmt ?_
  | with_reducible refine r_fld ?_
  | with_reducible refine r_sfld ?_
  | with_reducible refine r_make ?_
  | with_reducible refine r_m1 ?_
  | with_reducible refine r_m1s ?_
  | with_reducible refine r_iS ?_
  | with_reducible refine r_iE ?_
  | with_reducible refine r_si ?_
  | with_reducible refine r_strS ?_
  | with_reducible refine r_dgt ?_
  | with_reducible refine r_din ?_
  | with_reducible refine r_dnin ?_
  | with_reducible refine r_dput ?_
  | with_reducible refine r_dnew ?_
  | with_reducible refine r_disp1 ?_
  | with_reducible refine r_lenSet ?_
  | with_reducible refine r_get2 ?_
  | with_reducible refine r_get1 ?_
  | with_reducible refine r_daug ?_
  | with_reducible refine r_iR3 ?_
  | with_reducible refine r_prC ?_
  | with_reducible refine r_prN ?_
  | with_reducible refine r_part ?_
  | with_reducible refine r_int ?_
  | ((with_reducible refine' r_sameS ?hs ?_); (case hs => exact rfl))
  | ((with_reducible refine' r_otherS ?hs ?_); (case hs => exact rfl))
  | with_reducible refine ite_t ?_
  | with_reducible refine ite_f ?_
  | with_reducible refine ite_nt ?_
  | with_reducible refine ite_nf ?_)
local macro_rules | `(tactic| walk_at "sv") => `(tactic| repeat (walk_at "su"))

section
variable {P : Program} {w : World} {K : PySem.W.Frag} {mg : Str → Option Value} {base : Heap}

/-! ### draws into a list -/
structure GB (p : Addr) (H1 : Hp) (D : Addr) (ds : List PyData) (H : Hp) : Prop where
  s : Src H p
  b : But p H1 H
  g : Grow (fun a => H1 a = none ∧ a ≠ D) H D ds
theorem GB.start {p : Addr} {H1 : Hp} {D : Addr} (s : Src H1 p) (hD : H1 D = none) : GB p H1 D [] (upd H1 D (.lst [])) := by
  have e : Ext H1 (upd H1 D (.lst [])) := .new hD
  exact ⟨s.ext e, ext_but e, .start upd_same⟩
theorem src_some {H : Hp} {p : Addr} (s : Src H p) : H p ≠ none := by
  obtain ⟨a, b, c, h⟩ := s
  rw [h]
  exact fun z => nomatch z
theorem GB.push {p : Addr} {H1 H H4 : Hp} {D : Addr} {ds : List PyData} {d : PyData} {y : V} (q : GB p H1 D ds H) (s1 : Src H1 p) (hD : H1 D = none) (hl : ds.length < 100000) (s : Src H4 p) (b : But p H H4) (hx : Nw (fun a => H a = none) H4 y d) :
    ∃ acc, H4 D = some (.lst acc) ∧ acc.length < sizeLine ∧ GB p H1 D (ds ++ [d]) (upd H4 D (.lst (acc ++ [y]))) := by
  obtain ⟨vs, h1, h2⟩ := q.g
  have Dp : D ≠ p := (src_ne s1 hD).symm
  have pH := src_some q.s
  refine ⟨vs, b _ _ Dp h1, by rw [h2.len]; exact Nat.lt_of_lt_of_le hl (by decide), s.stay (.of fun a ha => upd_ne ha) Dp.symm, (q.b.trans b).mut hD fun a ha => upd_ne ha, _, upd_same, ?_⟩
  refine (h2.keep (fun a o s' z => ⟨by rw [upd_ne s'.2]; exact b _ _ (fun e => src_some s1 (e ▸ s'.1)) z, s'⟩) _).append (.cons (hx.keep (fun a o s' z => ?_) _) .nil)
  have ap : a ≠ p := fun e => pH (e ▸ s')
  have aD : a ≠ D := fun e => by rw [e, h1] at s'; cases s'
  exact ⟨by rw [upd_ne aD]; exact z, q.b.noneOf ap s', aD⟩
theorem GB.fin {p : Addr} {H1 H : Hp} {D : Addr} {ds : List PyData} (q : GB p H1 D ds H) (hD : H1 D = none) : Nw (fun a => H1 a = none) H (.ref D) (.list ds) := by
  obtain ⟨vs, h1, h2⟩ := q.g
  exact .lst hD h1 (h2.keep (fun a o s z => ⟨z, s.1⟩) _)
theorem mem_snoc {P : PyData → Prop} {ds : List PyData} {d : PyData} (h : ∀ e ∈ ds, P e) (hd : P d) : ∀ e ∈ ds ++ [d], P e := fun e he => by
  rcases List.mem_append.mp he with he | he
  · exact h e he
  · have : e = d := by simpa using he
    rw [this]
    exact hd
theorem GB.np {p : Addr} {H1 : Hp} {a : Addr} (s1 : Src H1 p) (h : H1 a = none) : a ≠ p := (src_ne s1 h).symm
theorem GB.but {p : Addr} {H1 H H' : Hp} {D : Addr} {ds : List PyData} (q : GB p H1 D ds H) (s1 : Src H1 p) (hD : H1 D = none) (s : Src H' p) (b : But p H H') : GB p H1 D ds H' :=
  ⟨s, q.b.trans b, q.g.keep (fun o h => b _ _ (GB.np s1 hD) h) fun a o s' z => ⟨b _ _ (GB.np s1 s'.1) z, s'⟩⟩
theorem GB.app {p : Addr} {H1 H : Hp} {D : Addr} {ds : List PyData} {x : V} {d : PyData} {Q : VK} (q : GB p H1 D ds H) (s1 : Src H1 p) (hD : H1 D = none) (hl : ds.length < 100000) (hx : Nw (fun a => H1 a = none ∧ a ≠ D) H x d) (k : ∀ H', GB p H1 D (ds ++ [d]) H' → (∀ b, b ≠ D → H' b = H b) → Q .non H') : rAppend (.ref D) [x] H Q :=
  q.g.app hl (fun a s => s.2) hx fun H' n g => k H' ⟨q.s.stay (.of n) (GB.np s1 hD).symm, q.b.mut hD n, g⟩ n
/-- what is new since a later heap is new since the first -/
theorem GB.new {p : Addr} {H1 H H' : Hp} {D : Addr} {ds : List PyData} {x : V} {d : PyData} (q : GB p H1 D ds H) (s1 : Src H1 p) (h : Nw (fun a => H a = none) H' x d) : Nw (fun a => H1 a = none ∧ a ≠ D) H' x d := h.keep (fun a o s z => by
  have ap : a ≠ p := fun e => src_some q.s (e ▸ s)
  obtain ⟨vs, hv, _⟩ := q.g.ex
  exact ⟨z, q.b.noneOf ap s, fun e => by rw [e, hv] at s; cases s⟩) _
theorem GB.len {p : Addr} {H1 H : Hp} {D : Addr} {ds : List PyData} (q : GB p H1 D ds H) : ∃ vs, H D = some (.lst vs) ∧ Nws (fun a => H1 a = none ∧ a ≠ D) H vs ds := q.g.ex
theorem new_but {p : Addr} {H1 H H' : Hp} {x : V} {d : PyData} (s : Src H p) (b : But p H1 H) (h : Nw (fun a => H a = none) H' x d) : Nw (fun a => H1 a = none) H' x d := h.keep (fun a o s' z => by
  have ap : a ≠ p := fun e => src_some s (e ▸ s')
  exact ⟨z, b.noneOf ap s'⟩) _
theorem nw_butN {p : Addr} {H1 H H' : Hp} {x : V} {d : PyData} (s1 : Src H1 p) (h : Nw (fun a => H1 a = none) H x d) (b : But p H H') : Nw (fun a => H1 a = none) H' x d := h.keep (fun a o s' z => ⟨b _ _ (GB.np s1 s') z, s'⟩) _

/-! ### drawn steps, ways, rows -/
theorem npick {r : Int} {m : Nat} (h0 : 0 ≤ r) (h : r < (m : Int)) : ∃ z : Nat, r = (z : Int) ∧ z < m := ⟨r.toNat, by omega, by omega⟩
def spAnyS : Sp := fun vs H Q _ => ∃ (p : Addr) (far : Nat), vs = [.ref p, .int (far : Nat)] ∧ Src H p ∧ 1 ≤ far ∧ far ≤ 1000 ∧ ∀ x d H', StepR d → Src H' p → But p H H' → Nw (fun b => H b = none) H' x d → Q x H'
theorem le1000 {n : Int} (h : n.natAbs ≤ 2000) : n.natAbs ≤ 10 ^ 30 := Nat.le_trans h (by decide)
theorem sc__law_any_step : FnScope ["source", "far", "sort", "sign"] ["source", "far"] (defScope s__law_any_step) := ⟨rfl, rfl, rfl, by decide +kernel, rfl, by decide +kernel, by decide +kernel⟩
theorem ok__law_any_step (T : Txt w K mg) : CalG P w K mg base 3 "_law_any_step" ["source", "far"] spAnyS := by
  have c__law_pick := ok_law_pick (P := P) (base := base) T
  refine calG_of T.g__law_any_step T.d__law_any_step sc__law_any_step (fun _ _ _ _ _ _ _ us hl => match us, hl with | [_, _], _ => rfl) (fun vs H Q E h => by obtain ⟨_, _, rfl, _⟩ := h; rfl) (fun cdv A outer s H vs Q E hr h => ?_)
  have nd := sc__law_any_step.nd
  have hu := hu64 hr
  obtain ⟨p, far, rfl, sp, f1, f2, k⟩ := h
  refine ⟨_, (pss_cons (ps_set (i := 2) nd rfl (Or.inl rfl) (pe_cal c__law_pick hr (by omega) (fun σ => L2N.passAt (L2N.takes_of rfl rfl rfl rfl) σ) (pa_cons (pv 0) (pa_cons pe_int pa_nil))))
        (pss_cons (ps_set (i := 3) nd rfl (Or.inl rfl) (pe_op op_sub pe_int (pe_op op_timesB pe_int (pe_cal c__law_pick hr (by omega) (fun σ => L2N.passAt (L2N.takes_of rfl rfl rfl rfl) σ) (pa_cons (pv 0) (pa_cons pe_int pa_nil))))))
        (pss_cons (ps_if (pt_cmpR (sameK (K := K) hu) (pv 2) pe_int (nomark _)) (pss_one (ps_ret (pe_tup (pa_cons pe_str (pa_cons (pe_op op_sub (pe_cal c__law_pick hr (by omega) (fun σ => L2N.passAt (L2N.takes_of rfl rfl rfl rfl) σ) (pa_cons (pv 0) (pa_cons (pv 1) pa_nil))) pe_int) pa_nil))))) pss_nil)
        (pss_cons (ps_if (pt_cmpR (sameK (K := K) hu) (pv 2) pe_int (nomark _)) (pss_one (ps_ret (pe_tup (pa_cons pe_str (pa_cons (pe_cal c__law_pick hr (by omega) (fun σ => L2N.passAt (L2N.takes_of rfl rfl rfl rfl) σ) (pa_cons (pv 0) (pa_cons (pv 1) pa_nil))) (pa_cons (pv 3) pa_nil)))))) pss_nil)
        (pss_cons (ps_if (pt_cmpR (sameK (K := K) hu) (pv 2) pe_int (nomark _)) (pss_one (ps_ret (pe_tup (pa_cons pe_str (pa_cons (pe_op (plusK (K := K)) pe_int (pe_cal c__law_pick hr (by omega) (fun σ => L2N.passAt (L2N.takes_of rfl rfl rfl rfl) σ) (pa_cons (pv 0) (pa_cons (pv 1) pa_nil)))) (pa_cons (pv 3) pa_nil)))))) pss_nil)
        (pss_one (ps_ret (pe_tup (pa_cons pe_str (pa_cons (pe_op op_sub (pe_cal c__law_pick hr (by omega) (fun σ => L2N.passAt (L2N.takes_of rfl rfl rfl rfl) σ) (pa_cons (pv 0) (pa_cons (pv 1) pa_nil))) pe_int) (pa_cons (pv 3) pa_nil))))))))))), ?_⟩
  walk_at "st"
  refine ⟨p, 5, rfl, sp, by decide, by decide, fun r1 H1 r10 r15 s1 n1 => ?_⟩
  walk_at "st"
  refine ⟨p, 2, rfl, s1, by decide, by decide, fun r2 H2 r20 r22 s2 n2 => ?_⟩
  have b2 := (But.of n1).trans (.of n2)
  refine r_timesB (cmL (by decide) (by decide)) ?_
  walk_at "st"
  have hsg : (1 : Int) - 2 * r2 = 1 ∨ (1 : Int) - 2 * r2 = -1 := by omega
  generalize (1 : Int) - 2 * r2 = sg at hsg
  refine ite_d (fun c => ?_) (fun c => ?_)
  · walk_at "st"
    refine ⟨p, (far : Nat), rfl, s2, by omega, by omega, fun r3 H3 r30 r3f s3 n3 => ?_⟩
    walk_at "st"
    intro t H4 ht e4 h4
    have b3 := b2.trans (.of n3)
    exact k _ _ H4 (.go _ (le1000 (by omega))) (s3.ext e4) (b3.ext e4) (.tup (b3.noneOf (src_ne s3 ht).symm ht) h4 (.cons (.str _) (.cons (.int _) .nil)))
  walk_at "st"
  refine ite_d (fun c => ?_) (fun c => ?_)
  · walk_at "st"
    refine ⟨p, (far : Nat), rfl, s2, by omega, by omega, fun r3 H3 r30 r3f s3 n3 => ?_⟩
    walk_at "st"
    intro t H4 ht e4 h4
    have b3 := b2.trans (.of n3)
    exact k _ _ H4 (.sz "head" r3 sg (by simp) (le1000 (by omega)) hsg (fun _ => r30) (fun z => absurd z (by decide +kernel))) (s3.ext e4) (b3.ext e4) (.tup (b3.noneOf (src_ne s3 ht).symm ht) h4 (.cons (.str _) (.cons (.int _) (.cons (.int _) .nil))))
  walk_at "st"
  refine ite_d (fun c => ?_) (fun c => ?_)
  · walk_at "st"
    refine ⟨p, (far : Nat), rfl, s2, by omega, by omega, fun r3 H3 r30 r3f s3 n3 => ?_⟩
    walk_at "st"
    intro t H4 ht e4 h4
    have b3 := b2.trans (.of n3)
    exact k _ _ H4 (.sz "tail" (1 + r3) sg (by simp) (le1000 (by omega)) hsg (fun z => absurd z (by decide +kernel)) (fun _ => by omega)) (s3.ext e4) (b3.ext e4) (.tup (b3.noneOf (src_ne s3 ht).symm ht) h4 (.cons (.str _) (.cons (.int _) (.cons (.int _) .nil))))
  walk_at "st"
  refine ⟨p, (far : Nat), rfl, s2, by omega, by omega, fun r3 H3 r30 r3f s3 n3 => ?_⟩
  walk_at "st"
  intro t H4 ht e4 h4
  have b3 := b2.trans (.of n3)
  exact k _ _ H4 (.sz "here" (r3 - 2) sg (by simp) (le1000 (by omega)) hsg (fun z => absurd z (by decide +kernel)) (fun z => absurd z (by decide +kernel))) (s3.ext e4) (b3.ext e4) (.tup (b3.noneOf (src_ne s3 ht).symm ht) h4 (.cons (.str _) (.cons (.int _) (.cons (.int _) .nil))))
def spAnyW : Sp := fun vs H Q _ => ∃ (p : Addr) (far : Nat), vs = [.ref p, .int (far : Nat)] ∧ Src H p ∧ 1 ≤ far ∧ far ≤ 1000 ∧ ∀ x d H', WayR d → Src H' p → But p H H' → Nw (fun b => H b = none) H' x d → Q x H'
theorem ints_at {l : List Int} {z : Nat} (h : z < l.length) : (l.map V.int)[z]? = some (.int (l.getD z 0)) := by
  rw [List.getElem?_map, List.getD_eq_getElem?_getD, List.getElem?_eq_getElem h]
  rfl
theorem getD_memI {l : List Int} {z : Nat} (h : z < l.length) : l.getD z 0 ∈ l := by
  rw [List.getD_eq_getElem?_getD, List.getElem?_eq_getElem h]
  exact List.getElem_mem h
theorem mem_of_all {l : List Int} {P : Int → Bool} (hl : l.all P = true) {x : Int} (h : x ∈ l) : P x = true := List.all_eq_true.mp hl x h
theorem sc__law_any_way : FnScope ["source", "far", "base", "at"] ["source", "far"] (defScope s__law_any_way) := ⟨rfl, rfl, rfl, by decide +kernel, rfl, by decide +kernel, by decide +kernel⟩
theorem ok__law_any_way (T : Txt w K mg) : CalG P w K mg base 4 "_law_any_way" ["source", "far"] spAnyW := by
  have c__law_pick := ok_law_pick (P := P) (base := base) T
  have c__law_any_step := ok__law_any_step (P := P) (base := base) T
  refine calG_of T.g__law_any_way T.d__law_any_way sc__law_any_way (fun _ _ _ _ _ _ _ us hl => match us, hl with | [_, _], _ => rfl) (fun vs H Q E h => by obtain ⟨_, _, rfl, _⟩ := h; rfl) (fun cdv A outer s H vs Q E hr h => ?_)
  have nd := sc__law_any_way.nd
  have hu := hu64 hr
  obtain ⟨p, far, rfl, sp, f1, f2, k⟩ := h
  refine ⟨_, (pss_cons (ps_set (i := 2) nd rfl (Or.inl rfl) (pe_ifExp (pt_cmpR (sameK (K := K) hu) (pe_cal c__law_pick hr (by omega) (fun σ => L2N.passAt (L2N.takes_of rfl rfl rfl rfl) σ) (pa_cons (pv 0) (pa_cons pe_int pa_nil))) pe_int (nomark _)) pe_str pe_str))
        (pss_one (ps_ret (pe_tup (pa_cons (pv 2) (pa_cons (pe_lc (own := [("at", 3)]) rfl nd (pi_range1 (by rfl) T.f_range (pa_cons (pe_ix (ixK (K := K)) (pe_lst (pa_cons pe_int (pa_cons pe_int (pa_cons pe_int (pa_cons pe_int (pa_cons pe_int pa_nil)))))) (pe_cal c__law_pick hr (by omega) (fun σ => L2N.passAt (L2N.takes_of rfl rfl rfl rfl) σ) (pa_cons (pv 0) (pa_cons pe_int pa_nil))) (fun _ _ => rfl)) pa_nil)) (blkOk_by (N := ["source", "far", "base", "at"]) (sc := defScope s__law_any_way) (by decide +kernel)) (fun _ _ _ _ _ => (pg_name (i := 3) nd rfl (Or.inl rfl))) (fun _ _ _ _ _ => pts_nil) (fun _ _ _ _ _ => (pe_cal c__law_any_step hr (by omega) passN (pa_cons (pv 0) (pa_cons (pv 1) pa_nil))))) pa_nil)))))), ?_⟩
  walk_at "st"
  refine ⟨p, 4, rfl, sp, by decide, by decide, fun r1 H1 r10 r14 s1 n1 => ?_⟩
  walk_at "st"
  -- the base
  refine ite_joinE (fun v H' => (v = .str "end" ∨ v = .str "front") ∧ H' = H1) (fun Q' hq => ?_) ?_
  · refine ite_d (fun c => ?_) (fun c => ?_)
    · walk_at "st"
      exact hq _ _ ⟨.inl rfl, rfl⟩
    · walk_at "st"
      exact hq _ _ ⟨.inr rfl, rfl⟩
  rintro v H1' ⟨hv, rfl⟩
  obtain ⟨b, rfl, hb⟩ : ∃ b : Str, v = .str b ∧ b ∈ (["front", "end"] : List Str) := by
    rcases hv with rfl | rfl
    · exact ⟨_, rfl, by simp⟩
    · exact ⟨_, rfl, by simp⟩
  walk_at "st"
  intro q H2 hq e2 h2
  walk_at "st"
  have s2 := s1.ext e2
  refine ⟨p, 5, rfl, s2, by decide, by decide, fun r3 H3 r30 r35 s3 n3 => ?_⟩
  have qp : q ≠ p := (src_ne s1 hq).symm
  obtain ⟨z, rfl, zl⟩ := npick (m := 5) r30 r35
  have hz : z < ([0, 1, 1, 2, 3] : List Int).length := zl
  refine r_atL (sqL (stay n3 qp h2)) (atI_nat (j := z) (ints_at (l := [0, 1, 1, 2, 3]) hz)) ?_
  have hn := mem_of_all (P := fun x => decide (0 ≤ x) && decide (x ≤ 3)) (l := [0, 1, 1, 2, 3]) (by decide) (getD_memI hz)
  generalize ([0, 1, 1, 2, 3] : List Int).getD z 0 = n at hn
  rw [Bool.and_eq_true, decide_eq_true_iff, decide_eq_true_iff] at hn
  walk_at "st"
  have b3 := ((But.of n1).ext e2).trans (But.of n3)
  intro D hD
  refine lcW_range (fun i H' => ∃ ds, GB p H3 D ds H' ∧ ds.length = i ∧ ∀ d ∈ ds, StepR d) ⟨[], .start s3 hD, rfl, fun d hd => nomatch hd⟩ (fun i H' hi ⟨ds, q, lds, pds⟩ => ?_) (fun H4 ⟨ds, q, lds, pds⟩ => ?_)
  · walk_at "st"
    refine r_lcW rfl ?_
    walk_at "st"
    refine ⟨p, far, rfl, q.s, f1, f2, fun x d H5 pd s5 b5 w5 => ?_⟩
    obtain ⟨acc, a1, a2, a3⟩ := q.push s3 hD (by omega) s5 b5 w5
    exact ⟨acc, a1, a2, ds ++ [d], a3, by rw [List.length_append, lds]; rfl, fun e he => by
      rcases List.mem_append.mp he with he | he
      · exact pds e he
      · rw [List.mem_singleton.mp he]; exact pd⟩
  · walk_at "st"
    intro t H5 ht e5 h5
    have nw := q.fin hD
    have b4 := b3.trans q.b
    have nw0 := new_but s3 b3 nw
    exact k _ _ H5 (.mk b ds hb pds (by omega)) (q.s.ext e5) (b4.ext e5) (.tup (b4.noneOf (src_ne q.s ht).symm ht) h5 (.cons (.str _) (.cons (nw_ext nw0 e5) .nil)))

end
end K35
set_option maxRecDepth 100000
set_option maxHeartbeats 4000000
namespace K35
open PySem PySem.Spec PyProof.Rows L2 L3
local macro_rules | `(tactic| walk_at "s1") => `(tactic| first
  | with_reducible refine r_seq ?_
  | with_reducible refine r_asgN ?_
  | with_reducible refine r_ret ?_
  | with_reducible refine r_next ?_
  | ((with_reducible refine' r_var ?hv ?_); (case hv => exact rfl))
  | with_reducible refine r_c ?_
  | with_reducible refine r_op ?_
  | with_reducible refine r_cons ?_
  | with_reducible refine r_nil ?_
  | with_reducible refine r_plusI ?_
  | with_reducible refine r_I0 ?_
  | with_reducible refine r_test ?_
  | with_reducible refine r_bl ?_
  | with_reducible refine r_ifS ?_
  | with_reducible refine r_cb ?_
  | with_reducible refine r_callS ?_
  | with_reducible refine r_and ?_
  | with_reducible refine r_or ?_
  | with_reducible refine r_not ?_
  | with_reducible refine r_B ?_
  | ((with_reducible refine' r_aug ?hv ?_); (case hv => exact rfl))
  | with_reducible refine r_augS ?_
  | with_reducible refine r_ipI ?_
  | with_reducible refine r_asg ?_
  | with_reducible refine r_sub ?_
  | with_reducible refine r_brk ?_
  | with_reducible refine r_isN1 ?_
  | with_reducible refine r_notN1 ?_
  | with_reducible refine r_intI ?_
  | with_reducible refine r_abs ?_
  | with_reducible refine r_min ?_
  | with_reducible refine r_max ?_
  | ((with_reducible refine' r_mod ?hz ?_); (case hz => omega))
  | ((with_reducible refine' r_pow ?hz ?_); (case hz => exact ⟨by decide, by decide, by decide⟩))
  | ((with_reducible refine' r_rg1 ?hz ?_); (case hz => omega))
  | ((with_reducible refine' r_rg2 ?hz ?_); (case hz => omega))
  | ((with_reducible refine' r_newL ?hz ?_); (case hz => exact Nat.le_of_ble_eq_true rfl))
  | ((with_reducible refine' r_newT ?hz ?_); (case hz => exact Nat.le_of_ble_eq_true rfl))
  | with_reducible refine r_for ?_
  | with_reducible refine r_lc ?_
  | with_reducible refine r_iR1 ?_
  | with_reducible refine r_iR2 ?_
  | with_reducible refine r_iL ?_
  | with_reducible refine r_iT ?_
  | with_reducible refine r_gname ?_
  | with_reducible refine r_gcons ?_
  | with_reducible refine r_gnil ?_
  | with_reducible refine r_yes ?_
  | with_reducible refine r_mkO ?_
  | with_reducible refine r_cont ?_
  | with_reducible refine r_drop ?_
  | with_reducible refine r_retN ?_
  | with_reducible refine r_ifC ?_
  | with_reducible refine r_ifI ?_
  | with_reducible refine r_if ?_
  | with_reducible refine r_un ?_
  | with_reducible refine r_neg ?_
  | with_reducible refine r_andV ?_
  | with_reducible refine r_orV ?_
  | with_reducible refine r_notV ?_
  | with_reducible refine r_tup ?_
  | with_reducible refine r_lst ?_
  | with_reducible refine r_bm ?_
  | with_reducible refine r_bm0 ?_
  | with_reducible refine r_sl ?_
  | with_reducible refine r_chain ?_
  | with_reducible refine r_listDn ?_
  | with_reducible refine r_listRg2 ?_
  | with_reducible refine r_listRg1 ?_
  | with_reducible refine r_revL ?_
  | with_reducible refine r_noPart ?_
  | with_reducible refine r_meth ?_
  | with_reducible refine r_methE ?_
  | with_reducible refine r_js ?_
  | with_reducible refine r_jsC ?_
  | with_reducible refine r_jsN ?_
  | with_reducible refine r_fmt ?_
  | with_reducible refine r_fld ?_
  | with_reducible refine r_sfld ?_
  | with_reducible refine r_make ?_
  | with_reducible refine r_m1 ?_
  | with_reducible refine r_m1s ?_
  | with_reducible refine r_iS ?_
  | with_reducible refine r_iE ?_
  | with_reducible refine r_si ?_
  | with_reducible refine r_strS ?_
  | with_reducible refine r_dgt ?_
  | with_reducible refine r_din ?_
  | with_reducible refine r_dnin ?_
  | with_reducible refine r_dput ?_
  | with_reducible refine r_dnew ?_
  | with_reducible refine r_disp1 ?_
  | with_reducible refine r_lenSet ?_
  | with_reducible refine r_get2 ?_
  | with_reducible refine r_get1 ?_
  | with_reducible refine r_daug ?_
  | with_reducible refine r_iR3 ?_
  | with_reducible refine r_prC ?_
  | with_reducible refine r_prN ?_
  | with_reducible refine r_part ?_
  | with_reducible refine r_int ?_
  | ((with_reducible refine' r_sameS ?hs ?_); (case hs => exact rfl))
  | ((with_reducible refine' r_otherS ?hs ?_); (case hs => exact rfl))
  | with_reducible refine ite_t ?_
  | with_reducible refine ite_f ?_
  | with_reducible refine ite_nt ?_
  | with_reducible refine ite_nf ?_)
local macro_rules | `(tactic| walk_at "st") => `(tactic| repeat (walk_at "s1"))
local macro_rules | `(tactic| walk_at "su") => `(tactic| first
  | with_reducible refine r_seq ?_
  | with_reducible refine r_asgN ?_
  | with_reducible refine r_ret ?_
  | with_reducible refine r_next ?_
  | ((with_reducible refine' r_var ?hv ?_); (case hv => exact rfl))
  | with_reducible refine r_c ?_
  | with_reducible refine r_op ?_
  | with_reducible refine r_cons ?_
  | with_reducible refine r_nil ?_
  | with_reducible refine r_plusI ?_
  | with_reducible refine r_I0 ?_
  | with_reducible refine r_test ?_
  | with_reducible refine r_bl ?_
  | with_reducible refine r_cb ?_
  | with_reducible refine r_callS ?_
  | with_reducible refine r_and ?_
  | with_reducible refine r_or ?_
  | with_reducible refine r_not ?_
  | with_reducible refine r_B ?_
  | ((with_reducible refine' r_aug ?hv ?_); (case hv => exact rfl))
  | with_reducible refine r_augS ?_
  | with_reducible refine r_ipI ?_
  | with_reducible refine r_asg ?_
  | with_reducible refine r_sub ?_
  | with_reducible refine r_brk ?_
  | with_reducible refine r_isN1 ?_
  | with_reducible refine r_notN1 ?_
  | with_reducible refine r_intI ?_
  | with_reducible refine r_abs ?_
  | with_reducible refine r_min ?_
  | with_reducible refine r_max ?_
  | ((with_reducible refine' r_mod ?hz ?_); (case hz => omega))
  | ((with_reducible refine' r_pow ?hz ?_); (case hz => exact ⟨by decide, by decide, by decide⟩))
  | ((with_reducible refine' r_rg1 ?hz ?_); (case hz => omega))
  | ((with_reducible refine' r_rg2 ?hz ?_); (case hz => omega))
  | ((with_reducible refine' r_newL ?hz ?_); (case hz => exact Nat.le_of_ble_eq_true rfl))
  | ((with_reducible refine' r_newT ?hz ?_); (case hz => exact Nat.le_of_ble_eq_true rfl))
  | with_reducible refine r_for ?_
  | with_reducible refine r_lc ?_
  | with_reducible refine r_iR1 ?_
  | with_reducible refine r_iR2 ?_
  | with_reducible refine r_iL ?_
  | with_reducible refine r_iT ?_
  | with_reducible refine r_gname ?_
  | with_reducible refine r_gcons ?_
  | with_reducible refine r_gnil ?_
  | with_reducible refine r_yes ?_
  | with_reducible refine r_mkO ?_
  | with_reducible refine r_cont ?_
  | with_reducible refine r_drop ?_
  | with_reducible refine r_retN ?_
  | with_reducible refine r_ifC ?_
  | with_reducible refine r_ifI ?_
  | with_reducible refine r_if ?_
  | with_reducible refine r_un ?_
  | with_reducible refine r_neg ?_
  | with_reducible refine r_andV ?_
  | with_reducible refine r_orV ?_
  | with_reducible refine r_notV ?_
  | with_reducible refine r_tup ?_
  | with_reducible refine r_lst ?_
  | with_reducible refine r_bm ?_
  | with_reducible refine r_bm0 ?_
  | with_reducible refine r_sl ?_
  | with_reducible refine r_chain ?_
  | with_reducible refine r_listDn ?_
  | with_reducible refine r_listRg2 ?_
  | with_reducible refine r_listRg1 ?_
  | with_reducible refine r_revL ?_
  | with_reducible refine r_noPart ?_
  | with_reducible refine r_meth ?_
  | with_reducible refine r_methE ?_
  | with_reducible refine r_js ?_
  | with_reducible refine r_jsC ?_
  | with_reducible refine r_jsN ?_
  | with_reducible refine r_fmt ?_
  | with_reducible refine r_fld ?_
  | with_reducible refine r_sfld ?_
  | with_reducible refine r_make ?_
  | with_reducible refine r_m1 ?_
  | with_reducible refine r_m1s ?_
  | with_reducible refine r_iS ?_
  | with_reducible refine r_iE ?_
  | with_reducible refine r_si ?_
  | with_reducible refine r_strS ?_
  | with_reducible refine r_dgt ?_
  | with_reducible refine r_din ?_
  | with_reducible refine r_dnin ?_
  | with_reducible refine r_dput ?_
  | with_reducible refine r_dnew ?_
  | with_reducible refine r_disp1 ?_
  | with_reducible refine r_lenSet ?_
  | with_reducible refine r_get2 ?_
  | with_reducible refine r_get1 ?_
  | with_reducible refine r_daug ?_
  | with_reducible refine r_iR3 ?_
  | with_reducible refine r_prC ?_
  | with_reducible refine r_prN ?_
  | with_reducible refine r_part ?_
  | with_reducible refine r_int ?_
  | ((with_reducible refine' r_sameS ?hs ?_); (case hs => exact rfl))
  | ((with_reducible refine' r_otherS ?hs ?_); (case hs => exact rfl))
  | with_reducible refine ite_t ?_
  | with_reducible refine ite_f ?_
  | with_reducible refine ite_nt ?_
  | with_reducible refine ite_nf ?_)
local macro_rules | `(tactic| walk_at "sv") => `(tactic| repeat (walk_at "su"))

section
variable {P : Program} {w : World} {K : PySem.W.Frag} {mg : Str → Option Value} {base : Heap}

/-! ### drawn rows -/
/-- a right row whose second number is small -/
structure RowS (B : Nat) (d : PyData) : Prop where
  r : RowR d
  ex : ∃ (k : Str) (a : Nat) (l : List PyData), d = .tuple (.str k :: .int (a : Nat) :: l) ∧ a ≤ B
theorem RowS.mono {B B' : Nat} {d : PyData} (h : RowS B d) (hb : B ≤ B') : RowS B' d := by
  obtain ⟨k, a, l, e, ha⟩ := h.ex
  exact ⟨h.r, k, a, l, e, by omega⟩
def Smalls (B : Nat) (ts : List Int) : Prop := ∀ t ∈ ts, ∃ n : Nat, t = (n : Int) ∧ n ≤ B
theorem nat1000 {n : Nat} (h : n ≤ 2000) : n ≤ 10 ^ 30 := Nat.le_trans h (by decide)
theorem nws_setE {S : Addr → Prop} {H : Hp} {xs : List V} {ds : List PyData} {i : Nat} {y : V} {d : PyData} (h : Nws S H xs ds) (hy : Nw S H y d) : Nws S H (xs.set i y) (ds.set i d) := by
  have hl := h.len
  refine .of (by rw [List.length_set, List.length_set, hl]) fun j x e hx he => ?_
  by_cases c : i = j
  · subst c
    have l1 := (List.getElem?_eq_some_iff.mp hx).1
    rw [List.length_set] at l1
    rw [List.getElem?_set_self l1] at hx
    rw [List.getElem?_set_self (by omega)] at he
    cases hx
    cases he
    exact hy
  · rw [List.getElem?_set_ne c] at hx he
    obtain ⟨x', h1, h2⟩ := h.get he
    rw [hx] at h1
    cases h1
    exact h2
theorem mem_snocG {P : PyData → Prop} {ds : List PyData} {d : PyData} (h : ∀ e ∈ ds, P e) (hd : P d) : ∀ e ∈ ds ++ [d], P e := fun e he => by
  rcases List.mem_append.mp he with he | he
  · exact h e he
  · rw [List.mem_singleton.mp he]; exact hd
theorem smalls_snoc {B : Nat} {ts : List Int} {t : Int} (h : Smalls B ts) (ht : ∃ n : Nat, t = (n : Int) ∧ n ≤ B) : Smalls B (ts ++ [t]) := fun x hx => by
  rcases List.mem_append.mp hx with hx | hx
  · exact h x hx
  · rw [List.mem_singleton.mp hx]; exact ht
theorem inV_intsR {z : Int} {l : List Int} : inV (.int z) (l.map V.int) = decide (z ∈ l) := inV_ints1
theorem r_inI1 {K : PySem.W.Frag} {H : Hp} {Q : VK} {p : Addr} {l : List Int} {z : Int} (h : SqL K H p (l.map V.int)) (k : Q (.bl (decide (z ∈ l))) H) : rIn K false (.int z) (.ref p) H Q :=
  ⟨p, _, rfl, .inl h, rfl, flI1 l, by rw [inV_ints1]; exact k⟩
def spAnyR : Sp := fun vs H Q _ => ∃ (p : Addr) (many far : Nat), vs = [.ref p, .int (many : Nat), .int (far : Nat)] ∧ Src H p ∧ many ≤ 10 ∧ 1 ≤ far ∧ far ≤ 1000 ∧ ∀ L ds H', (∀ d ∈ ds, RowR d) → ds.length = many + 1 → Src H' p → But p H H' → Nw (fun b => H b = none) H' (.ref L) (.list ds) → Q (.ref L) H'
theorem sc__law_any_rows : FnScope ["source", "many", "far", "rows", "at", "told", "ends", "sort", "near", "start", "ways", "row", "joint", "turn"] ["source", "many", "far"] (defScope s__law_any_rows) := ⟨rfl, rfl, rfl, by decide +kernel, rfl, by decide +kernel, by decide +kernel⟩
theorem ok__law_any_rows (T : Txt w K mg) : CalG P w K mg base 5 "_law_any_rows" ["source", "many", "far"] spAnyR := by
  have c__law_pick := ok_law_pick (P := P) (base := base) T
  have c__law_any_way := ok__law_any_way (P := P) (base := base) T
  refine calG_of T.g__law_any_rows T.d__law_any_rows sc__law_any_rows (fun _ _ _ _ _ _ _ us hl => match us, hl with | [_, _, _], _ => rfl) (fun vs H Q E h => by obtain ⟨_, _, _, rfl, _⟩ := h; rfl) (fun cdv A outer s H vs Q E hr h => ?_)
  have nd := sc__law_any_rows.nd
  have hu := hu64 hr
  obtain ⟨p, many, far, rfl, sp, m10, f1, f2, k⟩ := h
  refine ⟨_, (pss_cons (ps_set (i := 3) nd rfl (Or.inl rfl) (pe_lst (pa_cons (pe_tup (pa_cons pe_str (pa_cons (pe_cal c__law_pick hr (by omega) (fun σ => L2N.passAt (L2N.takes_of rfl rfl rfl rfl) σ) (pa_cons (pv 0) (pa_cons pe_int pa_nil))) (pa_cons (pe_lst (pa_cons (pe_cal c__law_any_way hr (by omega) (fun σ => L2N.passAt (L2N.takes_of rfl rfl rfl rfl) σ) (pa_cons (pv 0) (pa_cons (pv 2) pa_nil))) pa_nil)) pa_nil)))) pa_nil)))
        (pss_cons (ps_for (passes_of rfl) rfl (pi_range1 (by rfl) T.f_range (pa_cons (pv 1) pa_nil)) (pg_name (i := 4) nd rfl (Or.inl rfl)) (pss_cons (ps_set (i := 5) nd rfl (Or.inr rfl) (pe_lc (own := [("row", 11)]) rfl nd (piL (K := K) (pv 3)) (blkOk_by (N := ["source", "many", "far", "rows", "at", "told", "ends", "sort", "near", "start", "ways", "row", "joint", "turn"]) (sc := defScope s__law_any_rows) (by decide +kernel)) (fun _ _ _ _ _ => (pg_name (i := 11) nd rfl (Or.inl rfl))) (fun _ _ _ _ _ => (pts_one (pt_cmpR (otherK (K := K) hu) (pe_ix (ixK (K := K)) (pv 11) pe_int (fun _ _ => rfl)) pe_str (nomark _)))) (fun _ _ _ _ _ => (pe_ix (ixK (K := K)) (pv 11) pe_int (fun _ _ => rfl)))))
        (pss_cons (ps_setLc (i := 6) (own := [("joint", 12)]) rfl nd rfl rfl (sw_true rfl rfl rfl (by decide +kernel)) (piL (K := K) (pv 5)) (blkOk_by (N := ["source", "many", "far", "rows", "at", "told", "ends", "sort", "near", "start", "ways", "row", "joint", "turn"]) (sc := defScope s__law_any_rows) (by decide +kernel)) (fun _ _ _ _ _ => (pg_name (i := 12) nd rfl (Or.inl rfl))) (fun _ _ _ _ _ => (pts_one (pt_cmpR (inK (K := K)) (pe_op (plusK (K := K)) (pv 12) pe_int) (pv 5) (by rfl)))) (fun _ _ _ _ _ => (pv 12)))
        (pss_cons (ps_set (i := 7) nd rfl (Or.inl rfl) (pe_cal c__law_pick hr (by omega) (fun σ => L2N.passAt (L2N.takes_of rfl rfl rfl rfl) σ) (pa_cons (pv 0) (pa_cons pe_int pa_nil))))
        (pss_cons (ps_set (i := 8) nd rfl (Or.inl rfl) (pe_ifExp (pt_cmpR op_gt (pe_cal c__law_pick hr (by omega) (fun σ => L2N.passAt (L2N.takes_of rfl rfl rfl rfl) σ) (pa_cons (pv 0) (pa_cons pe_int pa_nil))) pe_int (nomark _)) (pe_op (plusK (K := K)) (pe_ix (ixK (K := K)) (pv 5) (pe_op op_sub (pe_callB (lenK (K := K)) (by rfl) T.f_len boot_len (pa_cons (pv 5) pa_nil)) pe_int) (fun _ _ => rfl)) pe_int) (pe_cal c__law_pick hr (by omega) (fun σ => L2N.passAt (L2N.takes_of rfl rfl rfl rfl) σ) (pa_cons (pv 0) (pa_cons pe_int pa_nil)))))
        (pss_one (ps_if (PW.pt (pw_and (pt_cmpR op_lt (pv 7) pe_int (nomark _)) (pw_and1 (pt_cmpR op_gt (pe_callB (lenK (K := K)) (by rfl) T.f_len boot_len (pa_cons (pv 6) pa_nil)) pe_int (nomark _))))) (pss_one (ps_expr (peBM (K := K) (pe_bm PySem.F.plainAttrs_list PySem.F.slot_list_append PySem.F.type_list_append mt_append (pv 3) (pa_cons (pe_tup (pa_cons pe_str (pa_cons (pe_cal c__law_pick hr (by omega) (fun σ => L2N.passAt (L2N.takes_of rfl rfl rfl rfl) σ) (pa_cons (pv 0) (pa_cons pe_int pa_nil))) (pa_cons (pe_ix (ixK (K := K)) (pv 6) (pe_cal c__law_pick hr (by omega) (fun σ => L2N.passAt (L2N.takes_of rfl rfl rfl rfl) σ) (pa_cons (pv 0) (pa_cons (pe_callB (lenK (K := K)) (by rfl) T.f_len boot_len (pa_cons (pv 6) pa_nil)) pa_nil))) (fun _ _ => rfl)) pa_nil)))) pa_nil))))) (pss_one (ps_if (pt_cmpR (sameK (K := K) hu) (pe_op op_mod (pe_callTy cr_int (by rfl) T.f_int (by decide +kernel) (pa_cons (pv 7) pa_nil)) pe_int) pe_int (nomark _)) (pss_cons (ps_set (i := 9) nd rfl (Or.inl rfl) (pe_ix (ixK (K := K)) (pv 5) (pe_ifExp (pt_cmpR op_gt (pe_cal c__law_pick hr (by omega) (fun σ => L2N.passAt (L2N.takes_of rfl rfl rfl rfl) σ) (pa_cons (pv 0) (pa_cons pe_int pa_nil))) pe_int (nomark _)) (pe_op op_sub (pe_callB (lenK (K := K)) (by rfl) T.f_len boot_len (pa_cons (pv 5) pa_nil)) pe_int) (pe_cal c__law_pick hr (by omega) (fun σ => L2N.passAt (L2N.takes_of rfl rfl rfl rfl) σ) (pa_cons (pv 0) (pa_cons (pe_callB (lenK (K := K)) (by rfl) T.f_len boot_len (pa_cons (pv 5) pa_nil)) pa_nil)))) (fun _ _ => rfl)))
        (pss_one (ps_expr (peBM (K := K) (pe_bm PySem.F.plainAttrs_list PySem.F.slot_list_append PySem.F.type_list_append mt_append (pv 3) (pa_cons (pe_tup (pa_cons pe_str (pa_cons (pv 8) (pa_cons (pv 9) (pa_cons (pe_op op_sub (pe_cal c__law_pick hr (by omega) (fun σ => L2N.passAt (L2N.takes_of rfl rfl rfl rfl) σ) (pa_cons (pv 0) (pa_cons (pv 2) pa_nil))) pe_int) pa_nil))))) pa_nil)))))) (pss_cons (ps_setLc (i := 10) (own := [("turn", 13)]) rfl nd rfl rfl (sw_true rfl rfl rfl (by decide +kernel)) (pi_range1 (by rfl) T.f_range (pa_cons (pe_ix (ixK (K := K)) (pe_lst (pa_cons pe_int (pa_cons pe_int (pa_cons pe_int (pa_cons pe_int (pa_cons pe_int (pa_cons pe_int pa_nil))))))) (pe_cal c__law_pick hr (by omega) (fun σ => L2N.passAt (L2N.takes_of rfl rfl rfl rfl) σ) (pa_cons (pv 0) (pa_cons pe_int pa_nil))) (fun _ _ => rfl)) pa_nil)) (blkOk_by (N := ["source", "many", "far", "rows", "at", "told", "ends", "sort", "near", "start", "ways", "row", "joint", "turn"]) (sc := defScope s__law_any_rows) (by decide +kernel)) (fun _ _ _ _ _ => (pg_name (i := 13) nd rfl (Or.inl rfl))) (fun _ _ _ _ _ => pts_nil) (fun _ _ _ _ _ => (pe_cal c__law_any_way hr (by omega) passN (pa_cons (pv 0) (pa_cons (pv 2) pa_nil)))))
        (C8.pss_cut (ps_if (PW.pt (pw_and (pt_cmpR op_gt (pe_callB (lenK (K := K)) (by rfl) T.f_len boot_len (pa_cons (pv 10) pa_nil)) pe_int (nomark _)) (pw_and1 (pt_cmpR op_gt (pe_cal c__law_pick hr (by omega) (fun σ => L2N.passAt (L2N.takes_of rfl rfl rfl rfl) σ) (pa_cons (pv 0) (pa_cons pe_int pa_nil))) pe_int (nomark _))))) (pss_one (ps_asg (pe_ix (ixK (K := K)) (pv 10) pe_int (fun _ _ => rfl)) (pg_sub (pv 10) pe_int set_list))) pss_nil)
        (pss_one (ps_expr (peBM (K := K) (pe_bm PySem.F.plainAttrs_list PySem.F.slot_list_append PySem.F.type_list_append mt_append (pv 3) (pa_cons (pe_tup (pa_cons pe_str (pa_cons (pv 8) (pa_cons (pv 10) pa_nil)))) pa_nil))))))))))))))))
        (pss_one (ps_ret (pv 3))))), ?_⟩
  walk_at "st"
  refine ⟨p, 3, rfl, sp, by decide, by decide, fun r1 H1 r10 r13 s1 n1 => ?_⟩
  obtain ⟨a1, rfl, al1⟩ := npick (m := 3) r10 r13
  walk_at "st"
  refine ⟨p, far, rfl, s1, f1, f2, fun xw dw H2 pw s2 b12 w2 => ?_⟩
  walk_at "st"
  intro wl H3 hwl e3 h3
  walk_at "st"
  intro t0 H4 ht0 e4 h4
  walk_at "st"
  intro L H5 hL e5 h5
  have b02 := (But.of n1).trans b12
  have s3 := s2.ext e3
  have s4 := s3.ext e4
  have s5 := s4.ext e5
  have b05 := ((b02.ext e3).ext e4).ext e5
  have Lp : L ≠ p := (src_ne s4 hL).symm
  have LH : H L = none := ((b02.ext e3).ext e4).noneOf Lp hL
  have nwW := new_but s1 (.of n1) w2
  have nwL4 : Nw (fun b => H b = none) H4 (.ref t0) (.tuple [.str "find", .int (a1 : Nat), .list [dw]]) :=
    .tup ((b02.ext e3).noneOf (src_ne s3 ht0).symm ht0) h4 (.cons (.str _) (.cons (.int _) (.cons (.lst (b02.noneOf (src_ne s2 hwl).symm hwl) (e4 _ _ h3) (.cons (nw_ext nwW (e3.trans e4)) .nil)) .nil)))
  have d0R : RowS 10 (.tuple [.str "find", .int (a1 : Nat), .list [dw]]) := ⟨.find a1 [dw] (nat1000 (by omega)) (fun d hd => by rw [List.mem_singleton.mp hd]; exact pw) (by show 1 ≤ 7; decide), _, _, _, rfl, by omega⟩
  have q5 : GB p H L [.tuple [.str "find", .int (a1 : Nat), .list [dw]]] H5 := ⟨s5, b05, [.ref t0], h5, .cons (nwL4.keep (fun b o s' z => ⟨e5 _ _ z, s', ne_of_none z hL⟩) _) .nil⟩
  clear nwL4 nwW w2
  walk_at "st"
  refine forW_range (fun i σ' H' => ∃ (v4 v5 v6 v7 v8 v9 v10 : Option V) (ds : List PyData), σ' = [some (.ref p), some (.int (many : Nat)), some (.int (far : Nat)), some (.ref L), v4, v5, v6, v7, v8, v9, v10, none, none, none] ∧ GB p H L ds H' ∧ ds.length = i + 1 ∧ (∀ d ∈ ds, RowS (10 + i) d) ∧ ds[0]? = some (.tuple [.str "find", .int (a1 : Nat), .list [dw]])) ⟨none, none, none, none, none, none, none, _, rfl, q5, rfl, fun d hd => by rw [List.mem_singleton.mp hd]; exact d0R, rfl⟩ ?_ ?_
  · rintro i σ' H6 hi ⟨v4, v5, v6, v7, v8, v9, v10, ds, rfl, q6, lds, hS, h0⟩
    have ii : i < many := by omega
    obtain ⟨vs, hv, hvs⟩ := q6.len
    have lvs : vs.length = i + 1 := by rw [hvs.len, lds]
    have s6 := q6.s
    walk_at "st"
    refine r_li (sqL hv) ?_
    intro D hD
    refine lcW_list (fun j H' => Ext H6 H' ∧ ∃ ts : List Int, H' D = some (.lst (ts.map V.int)) ∧ Smalls (10 + i) ts ∧ ts.length ≤ j ∧ (1 ≤ j → ts ≠ [])) ⟨.new hD, [], upd_same, (fun t ht => nomatch ht), Nat.le_refl _, fun z => absurd z (by decide)⟩ (fun j H' _ ⟨e, _⟩ => sqL (e _ _ hv)) (fun j y H7 hy ⟨e7, ts, h7, sm, lt, ne⟩ => ?_) (fun H7 ⟨e7, ts, h7, sm, lt, ne⟩ => ?_)
    · have jj := (List.getElem?_eq_some_iff.mp hy).1
      have jd : j < ds.length := by omega
      obtain ⟨y', hy', ny⟩ := hvs.get (List.getElem?_eq_getElem jd)
      rw [hy] at hy'
      cases hy'
      obtain ⟨kd, a, l, ed, al⟩ := (hS _ (List.getElem_mem jd)).ex
      rw [ed] at ny
      cases ny with
      | tup s' z' zs =>
        rename_i ra rxs
        obtain ⟨yk, ys, rfl, nk, zs⟩ : ∃ yk ys, rxs = yk :: ys ∧ Nw (fun a => H a = none ∧ a ≠ L) H6 yk (.str kd) ∧ Nws (fun a => H a = none ∧ a ≠ L) H6 ys (.int (a : Nat) :: l) := by
          cases zs with
          | cons a b => exact ⟨_, _, rfl, a, b⟩
        obtain ⟨ya, yt, rfl, na, zs⟩ : ∃ ya yt, ys = ya :: yt ∧ Nw (fun a => H a = none ∧ a ≠ L) H6 ya (.int (a : Nat)) ∧ Nws (fun a => H a = none ∧ a ≠ L) H6 yt l := by
          cases zs with
          | cons a b => exact ⟨_, _, rfl, a, b⟩
        obtain rfl : yk = .str kd := by cases nk; rfl
        obtain rfl : ya = .int (a : Nat) := by cases na; rfl
        have hr7 := e7 _ _ z'
        walk_at "st"
        refine r_lcW rfl ?_
        walk_at "st"
        refine r_atT (sqT hr7) (atI_nat (j := 0) rfl) ?_
        walk_at "st"
        refine ite_n (fun c => ?_) (fun c => ?_)
        · walk_at "st"
          refine r_atT (sqT hr7) (atI_nat (j := 1) rfl) ?_
          refine ⟨_, h7, by rw [List.length_map, sizeLine_eq]; omega, .mut e7 hD, ts ++ [(a : Int)], by rw [upd_same, List.map_append]; rfl, smalls_snoc sm ⟨a, rfl, al⟩, by rw [List.length_append]; show _ + 1 ≤ _; omega, fun _ => by simp⟩
        · refine ⟨e7, ts, h7, sm, by omega, fun _ => ne ?_⟩
          rcases Nat.eq_zero_or_pos j with z | z
          · subst z
            have h0' : ds[0] = .tuple [.str "find", .int (a1 : Nat), .list [dw]] := by
              rw [List.getElem?_eq_getElem jd] at h0
              exact Option.some.inj h0
            rw [h0'] at ed
            injection ed with ed
            injection ed with ed _
            injection ed with ed
            have := V.str.inj c
            rw [← ed] at this
            exact absurd this (by decide +kernel)
          · exact z
    have tne := ne (by omega)
    have tl0 : 0 < ts.length := List.length_pos_iff.mpr tne
    clear ne
    have s7 := s6.ext e7
    have q7 := q6.but sp LH s7 (ext_but e7)
    have Dp : D ≠ p := (src_ne s6 hD).symm
    have DL : D ≠ L := (ne_of_none hv hD).symm
    walk_at "st"
    refine r_li (sqL h7) ?_
    intro D2 hD2
    refine lcW_list (fun j H' => Ext H7 H' ∧ ∃ es : List Int, H' D2 = some (.lst (es.map V.int)) ∧ Smalls (10 + i) es ∧ es.length ≤ j) ⟨.new hD2, [], upd_same, (fun t ht => nomatch ht), Nat.le_refl _⟩ (fun j H' _ ⟨e, _⟩ => sqL (e _ _ h7)) (fun j y H8 hy ⟨e8, es, h8, sme, le⟩ => ?_) (fun H8 ⟨e8, es, h8, sme, le⟩ => ?_)
    · rw [List.getElem?_map] at hy
      obtain ⟨t, ht, rfl⟩ := Option.map_eq_some_iff.mp hy
      have jl := (List.getElem?_eq_some_iff.mp ht).1
      walk_at "st"
      refine r_lcW rfl ?_
      walk_at "st"
      refine r_inI1 (sqL (e8 _ _ h7)) ?_
      walk_at "st"
      refine ite_d (fun c => ?_) (fun c => ?_)
      · walk_at "st"
        refine ⟨_, h8, by rw [List.length_map, sizeLine_eq]; omega, .mut e8 hD2, es ++ [t], by rw [upd_same, List.map_append]; rfl, smalls_snoc sme (sm t (List.mem_of_getElem? ht)), by rw [List.length_append]; show _ + 1 ≤ _; omega⟩
      · exact ⟨e8, es, h8, sme, by omega⟩
    rw [List.length_map] at le
    have s8 := s7.ext e8
    have q8 := q7.but sp LH s8 (ext_but e8)
    have t8 := e8 _ _ h7
    have D2p : D2 ≠ p := (src_ne s7 hD2).symm
    walk_at "st"
    refine ⟨p, 6, rfl, s8, by decide, by decide, fun r9 H9 r90 r96 s9 n9 => ?_⟩
    have q9 := q8.but sp LH s9 (.of n9)
    have t9 := stay n9 Dp t8
    have u9 := stay n9 D2p h8
    walk_at "st"
    refine ⟨p, 4, rfl, s9, by decide, by decide, fun r10 H10 r100 r104 s10 n10 => ?_⟩
    have q10 := q9.but sp LH s10 (.of n10)
    have t10 := stay n10 Dp t9
    have u10 := stay n10 D2p u9
    have last : ∃ n : Nat, ts.getD (ts.length - 1) 0 = (n : Int) ∧ n ≤ 10 + i := sm _ (getD_memI (by omega))
    have lasti : (ts.map V.int)[ts.length - 1]? = some (.int (ts.getD (ts.length - 1) 0)) := ints_at (by omega)
    walk_at "st"
    refine ite_joinE (fun v H' => ∃ n : Nat, v = .int (n : Nat) ∧ n ≤ 11 + i ∧ Src H' p ∧ But p H10 H') (fun Q' hq => ?_) ?_
    · refine ite_d (fun c => ?_) (fun c => ?_)
      · walk_at "st"
        refine r_lenL (sqL t10) (n := (ts.length : Nat)) (by rw [List.length_map]) ?_
        walk_at "st"
        rw [show ((ts.length : Nat) : Int) - 1 = ((ts.length - 1 : Nat) : Int) by omega]
        refine r_atL (sqL t10) (atI_nat lasti) ?_
        obtain ⟨n, en, hn⟩ := last
        rw [en]
        walk_at "st"
        exact hq _ _ ⟨n + 1, by congr 1, by omega, s10, .rfl⟩
      · walk_at "st"
        refine ⟨p, 6, rfl, s10, by decide, by decide, fun r11 H11 r110 r116 s11 n11 => ?_⟩
        obtain ⟨n, rfl, hn⟩ := npick (m := 6) r110 r116
        exact hq _ _ ⟨n, rfl, by omega, s11, .of n11⟩
    rintro v H11 ⟨near, rfl, nl, s11, b11⟩
    have q11 := q10.but sp LH s11 b11
    have t11 := b11 _ _ Dp t10
    have u11 := b11 _ _ D2p u10
    have cont : ∀ (H' : Hp) (ds' : List PyData) (v9 v10 : Option V) (d : PyData), ds' = ds ++ [d] → RowS (11 + i) d → GB p H L ds' H' → ∃ (v4' v5' v6' v7' v8' v9' v10' : Option V) (ds'' : List PyData), [some (V.ref p), some (.int (many : Nat)), some (.int (far : Nat)), some (.ref L), some (.int (0 + (i : Int))), some (.ref D), some (.ref D2), some (.int r9), some (.int (near : Nat)), v9, v10, none, none, none] = [some (.ref p), some (.int (many : Nat)), some (.int (far : Nat)), some (.ref L), v4', v5', v6', v7', v8', v9', v10', none, none, none] ∧ GB p H L ds'' H' ∧ ds''.length = i + 1 + 1 ∧ (∀ d ∈ ds'', RowS (10 + (i + 1)) d) ∧ ds''[0]? = some (.tuple [.str "find", .int (a1 : Nat), .list [dw]]) := fun H' ds' v9 v10 d e hd q => by
      subst e
      refine ⟨_, _, _, _, _, _, _, ds ++ [d], rfl, q, by rw [List.length_append, lds]; rfl, mem_snocG (fun e he => (hS e he).mono (by omega)) (hd.mono (by omega)), ?_⟩
      rw [List.getElem?_append_left (by omega)]
      exact h0
    walk_at "sv"
    refine r_ifJ (decide (r9 < 3) && decide (0 < es.length)) (fun P' hP => ?_) (fun H12 e12 => ?_)
    · walk_at "st"
      refine ite_d (fun c => ?_) (fun c => ?_)
      · walk_at "st"
        refine r_lenL (sqL u11) (n := (es.length : Nat)) (by rw [List.length_map]) ?_
        walk_at "st"
        have := hP H11 .rfl
        rw [decide_eq_true c, Bool.true_and] at this
        rw [show decide ((0 : Int) < ((es.length : Nat) : Int)) = decide (0 < es.length) by by_cases z : 0 < es.length <;> simp [z]]
        exact this
      · have := hP H11 .rfl
        rw [decide_eq_false c, Bool.false_and] at this
        exact this
    have s12 := s11.ext e12
    have q12 := q11.but sp LH s12 (ext_but e12)
    have t12 := e12 _ _ t11
    have u12 := e12 _ _ u11
    cases hc : decide (r9 < 3) && decide (0 < es.length) with
    | true =>
      rw [Bool.and_eq_true, decide_eq_true_iff, decide_eq_true_iff] at hc
      refine ite_t ?_
      walk_at "st"
      refine ⟨q12.g.ty, ?_⟩
      walk_at "st"
      refine ⟨p, 9, rfl, s12, by decide, by decide, fun r13 H13 r130 r139 s13 n13 => ?_⟩
      obtain ⟨c1, rfl, hc1⟩ := npick (m := 9) r130 r139
      have q13 := q12.but sp LH s13 (.of n13)
      have u13 := stay n13 D2p u12
      walk_at "st"
      refine r_lenL (sqL u13) (n := (es.length : Nat)) (by rw [List.length_map]) ?_
      walk_at "st"
      refine ⟨p, (es.length : Nat), rfl, s13, by omega, by omega, fun r14 H14 r140 r14e s14 n14 => ?_⟩
      obtain ⟨z, rfl, zl⟩ := npick r140 r14e
      have q14 := q13.but sp LH s14 (.of n14)
      have u14 := stay n14 D2p u13
      refine r_atL (sqL u14) (atI_nat (ints_at zl)) ?_
      obtain ⟨n, en, hn⟩ := sme _ (getD_memI zl)
      rw [en]
      walk_at "st"
      intro t H15 ht e15 h15
      walk_at "st"
      have q15 := q14.but sp LH (s14.ext e15) (ext_but e15)
      have nw : Nw (fun a => H14 a = none) H15 (.ref t) (.tuple [.str "leaf", .int (c1 : Nat), .int (n : Nat)]) := .tup ht h15 (.cons (.str _) (.cons (.int _) (.cons (.int _) .nil)))
      refine q15.app sp LH (by omega) (q14.new sp nw) (fun H16 q16 n16 => ?_)
      exact cont H16 _ _ _ _ rfl ⟨.leaf c1 n (nat1000 (by omega)) (nat1000 (by omega)), _, _, _, rfl, by omega⟩ q16
    | false =>
      clear hc
      refine ite_f ?_
      walk_at "st"
      refine ite_d (fun c => ?_) (fun c => ?_)
      · walk_at "st"
        refine ⟨p, 4, rfl, s12, by decide, by decide, fun r13 H13 r130 r134 s13 n13 => ?_⟩
        have q13 := q12.but sp LH s13 (.of n13)
        have t13 := stay n13 Dp t12
        walk_at "st"
        refine ite_joinE (fun v H' => ∃ z : Nat, v = .int (z : Nat) ∧ z < ts.length ∧ Src H' p ∧ But p H13 H') (fun Q' hq => ?_) ?_
        · refine ite_d (fun c => ?_) (fun c => ?_)
          · walk_at "st"
            refine r_lenL (sqL t13) (n := (ts.length : Nat)) (by rw [List.length_map]) ?_
            walk_at "st"
            rw [show ((ts.length : Nat) : Int) - 1 = ((ts.length - 1 : Nat) : Int) by omega]
            exact hq _ _ ⟨ts.length - 1, rfl, by omega, s13, .rfl⟩
          · walk_at "st"
            refine r_lenL (sqL t13) (n := (ts.length : Nat)) (by rw [List.length_map]) ?_
            walk_at "st"
            refine ⟨p, (ts.length : Nat), rfl, s13, by omega, by omega, fun r14 H14 r140 r14e s14 n14 => ?_⟩
            obtain ⟨z, rfl, zl⟩ := npick r140 r14e
            exact hq _ _ ⟨z, rfl, zl, s14, .of n14⟩
        rintro v H14 ⟨z, rfl, zl, s14, b14⟩
        have q14 := q13.but sp LH s14 b14
        have t14 := b14 _ _ Dp t13
        refine r_atL (sqL t14) (atI_nat (ints_at zl)) ?_
        obtain ⟨st, est, hst⟩ := sm _ (getD_memI zl)
        rw [est]
        walk_at "st"
        refine ⟨q14.g.ty, ?_⟩
        walk_at "st"
        refine ⟨p, (far : Nat), rfl, s14, by omega, by omega, fun r15 H15 r150 r15e s15 n15 => ?_⟩
        have q15 := q14.but sp LH s15 (.of n15)
        walk_at "st"
        intro t H16 ht e16 h16
        walk_at "st"
        have q16 := q15.but sp LH (s15.ext e16) (ext_but e16)
        have nw : Nw (fun a => H15 a = none) H16 (.ref t) (.tuple [.str "tie", .int (near : Nat), .int (st : Nat), .int (r15 - 1)]) := .tup ht h16 (.cons (.str _) (.cons (.int _) (.cons (.int _) (.cons (.int _) .nil))))
        refine q16.app sp LH (by omega) (q15.new sp nw) (fun H17 q17 n17 => ?_)
        exact cont H17 _ _ _ _ rfl ⟨.tie near st _ (nat1000 (by omega)) (nat1000 (by omega)) (le1000 (by omega)), _, _, _, rfl, nl⟩ q17
      · walk_at "st"
        intro ql H13 hql e13 h13
        walk_at "st"
        have s13 := s12.ext e13
        have q13 := q12.but sp LH s13 (ext_but e13)
        refine ⟨p, 6, rfl, s13, by decide, by decide, fun r14 H14 r140 r146 s14 n14 => ?_⟩
        have q14 := q13.but sp LH s14 (.of n14)
        have qlp : ql ≠ p := (src_ne s12 hql).symm
        obtain ⟨z, rfl, zl⟩ := npick (m := 6) r140 r146
        have hz : z < ([1, 1, 3, 3, 2, 0] : List Int).length := zl
        refine r_atL (sqL (stay n14 qlp h13)) (atI_nat (j := z) (ints_at (l := [1, 1, 3, 3, 2, 0]) hz)) ?_
        have hn := mem_of_all (P := fun x => decide (0 ≤ x) && decide (x ≤ 3)) (l := [1, 1, 3, 3, 2, 0]) (by decide) (getD_memI hz)
        generalize ([1, 1, 3, 3, 2, 0] : List Int).getD z 0 = n at hn
        rw [Bool.and_eq_true, decide_eq_true_iff, decide_eq_true_iff] at hn
        walk_at "st"
        intro Dw hDw
        refine lcW_range (fun j H' => ∃ ws, GB p H14 Dw ws H' ∧ ws.length = j ∧ ∀ d ∈ ws, WayR d) ⟨[], .start s14 hDw, rfl, fun d hd => nomatch hd⟩ (fun j H' hj ⟨ws, q, lw, pw⟩ => ?_) (fun H15 ⟨ws, q, lw, pw⟩ => ?_)
        · walk_at "st"
          refine r_lcW rfl ?_
          walk_at "st"
          refine ⟨p, far, rfl, q.s, f1, f2, fun x d H5 pd s5 b5 w5 => ?_⟩
          obtain ⟨acc, a1, a2, a3⟩ := q.push s14 hDw (by omega) s5 b5 w5
          exact ⟨acc, a1, a2, ws ++ [d], a3, by rw [List.length_append, lw]; rfl, mem_snocG pw pd⟩
        have s15 := q.s
        have q15 := q14.but sp LH s15 q.b
        obtain ⟨wvs, hw, hws⟩ := q.len
        have lwv : wvs.length = ws.length := hws.len
        have Dwp : Dw ≠ p := (src_ne s14 hDw).symm
        obtain ⟨vs14, hv14, _⟩ := q14.len
        have DwL : Dw ≠ L := (ne_of_none hv14 hDw).symm
        have DwH : H Dw = none := q14.b.noneOf Dwp hDw
        have fin : ∀ (ws' : List PyData) (wvs' : List V) (H16 : Hp), (∀ d ∈ ws', WayR d) → ws'.length ≤ 3 → GB p H L ds H16 → Src H16 p → H16 Dw = some (.lst wvs') → Nws (fun a => H14 a = none ∧ a ≠ Dw) H16 wvs' ws' → ∀ t H17, H16 t = none → Ext H16 H17 → H17 t = some (.tup [.str "find", .int (near : Nat), .ref Dw]) → ∀ v9 v10 : Option V, rAppend (.ref L) [.ref t] H17 fun _ H' => ∃ (v4' v5' v6' v7' v8' v9' v10' : Option V) (ds'' : List PyData), [some (V.ref p), some (.int (many : Nat)), some (.int (far : Nat)), some (.ref L), some (.int (0 + (i : Int))), some (.ref D), some (.ref D2), some (.int r9), some (.int (near : Nat)), v9, v10, none, none, none] = [some (.ref p), some (.int (many : Nat)), some (.int (far : Nat)), some (.ref L), v4', v5', v6', v7', v8', v9', v10', none, none, none] ∧ GB p H L ds'' H' ∧ ds''.length = i + 1 + 1 ∧ (∀ d ∈ ds'', RowS (10 + (i + 1)) d) ∧ ds''[0]? = some (.tuple [.str "find", .int (a1 : Nat), .list [dw]]) := fun ws' wvs' H16 pw' lw' q16 s16 hw16 hws16 t H17 ht e17 h17 v9 v10 => by
          have q17 := q16.but sp LH (s16.ext e17) (ext_but e17)
          obtain ⟨vs16, hv16, _⟩ := q16.len
          have nw : Nw (fun a => H a = none ∧ a ≠ L) H17 (.ref t) (.tuple [.str "find", .int (near : Nat), .list ws']) := .tup ⟨q16.b.noneOf (src_ne s16 ht).symm ht, (ne_of_none hv16 ht).symm⟩ h17 (.cons (.str _) (.cons (.int _) (.cons (.lst ⟨DwH, DwL⟩ (e17 _ _ hw16) (hws16.keep (fun a o s z => ⟨e17 _ _ z, q14.b.noneOf (GB.np s14 s.1) s.1, fun e => by rw [e, hv14] at s; exact nomatch s.1⟩) _)) .nil)))
          exact q17.app sp LH (by omega) nw fun H18 q18 n18 => cont H18 _ v9 v10 _ rfl ⟨.find near ws' (nat1000 (by omega)) pw' (by omega), _, _, _, rfl, nl⟩ q18
        walk_at "sv"
        have lw3 : ws.length ≤ 3 := by omega
        refine r_cut (fun σ' H' => ∃ (ws' : List PyData) (wvs' : List V), σ' = [some (V.ref p), some (.int (many : Nat)), some (.int (far : Nat)), some (.ref L), some (.int (0 + (i : Int))), some (.ref D), some (.ref D2), some (.int r9), some (.int (near : Nat)), v9, some (.ref Dw), none, none, none] ∧ (∀ d ∈ ws', WayR d) ∧ ws'.length ≤ 3 ∧ GB p H L ds H' ∧ Src H' p ∧ H' Dw = some (.lst wvs') ∧ Nws (fun a => H14 a = none ∧ a ≠ Dw) H' wvs' ws') ?_ ?_
        · walk_at "st"
          refine r_lenL (sqL hw) (n := (ws.length : Nat)) (by rw [lwv]) ?_
          walk_at "st"
          refine ite_d (fun c => ?_) (fun c => ?_)
          · walk_at "st"
            refine ⟨p, 4, rfl, s15, by decide, by decide, fun r16 H16 r160 r164 s16 n16 => ?_⟩
            have q16 := q15.but sp LH s16 (.of n16)
            have hw16 := stay n16 Dwp hw
            have hws16 : Nws (fun a => H14 a = none ∧ a ≠ Dw) H16 wvs ws := hws.keep (fun a o s z => ⟨(n16 _ (GB.np s14 s.1)).trans z, s⟩) _
            walk_at "st"
            refine ite_d (fun c2 => ?_) (fun c2 => ?_)
            · walk_at "st"
              obtain ⟨y0, hy0, ny0⟩ := hws16.get (List.getElem?_eq_getElem (show 0 < ws.length by omega))
              refine r_atL (sqL hw16) (atI_nat (j := 0) hy0) ?_
              walk_at "st"
              refine r_setL (j := 1) hw16 rfl (by omega) (fun H17 h17 n17 => ?_)
              have u17 : ∀ a o, (H14 a = none ∧ a ≠ Dw) → H16 a = some o → H17 a = some o ∧ (H14 a = none ∧ a ≠ Dw) := fun a o s z => ⟨(n17 _ s.2).trans z, s⟩
              have path : ∀ a o, a ≠ p → H14 a = some o → H17 a = some o := fun a o ap z => (n17 _ (ne_of_none z hDw)).trans ((n16 _ ap).trans (q.b a o ap z))
              have q17 : GB p H L ds H17 := ⟨s16.stay (.of n17) Dwp.symm, q16.b.mut DwH n17, q14.g.keep (fun o h => path _ _ Lp h) (fun a o s z => ⟨path _ _ (GB.np sp s.1) z, s⟩)⟩
              exact ⟨ws.set 1 ws[0], _, rfl, fun d hd => by
                rcases List.mem_or_eq_of_mem_set hd with h | h
                · exact pw d h
                · rw [h]; exact pw _ (List.getElem_mem _), by rw [List.length_set]; exact lw3, q17, q17.s, h17, (nws_setE hws16 ny0).keep u17 _⟩
            · walk_at "st"
              exact ⟨ws, wvs, rfl, pw, lw3, q16, s16, hw16, hws16⟩
          · walk_at "st"
            exact ⟨ws, wvs, rfl, pw, lw3, q15, s15, hw, hws⟩
        · rintro σ' H16 ⟨ws', wvs', rfl, pw', lw', q16, s16, hw16, hws16⟩
          walk_at "st"
          refine ⟨q16.g.ty, ?_⟩
          walk_at "st"
          intro t H17 ht e17 h17
          walk_at "st"
          exact fin ws' wvs' H16 pw' lw' q16 s16 hw16 hws16 t H17 ht e17 h17 _ _
  · rintro σ' H6 ⟨v4, v5, v6, v7, v8, v9, v10, ds, rfl, q6, lds, hS, h0⟩
    walk_at "st"
    exact k L ds H6 (fun d hd => (hS d hd).r) (by rw [lds]; omega) q6.s q6.b (q6.fin LH)

theorem nws_permE {S : Addr → Prop} {H : Hp} {vs ys : List V} (h : vs.Perm ys) : ∀ {ds : List PyData}, Nws S H vs ds → ∃ es : List PyData, es.Perm ds ∧ Nws S H ys es := by
  induction h with
  | nil => intro ds n; exact ⟨ds, .refl _, n⟩
  | cons x h ih =>
    intro ds n
    cases n with
    | cons a b =>
      obtain ⟨es, p, n⟩ := ih b
      exact ⟨_ :: es, p.cons _, .cons a n⟩
  | swap x y l =>
    intro ds n
    cases n with
    | cons a b =>
      cases b with
      | cons c d => exact ⟨_, .swap _ _ _, .cons c (.cons a d)⟩
  | trans h1 h2 ih1 ih2 =>
    intro ds n
    obtain ⟨es, p, n⟩ := ih1 n
    obtain ⟨fs, p2, n2⟩ := ih2 n
    exact ⟨fs, p2.trans p, n2⟩
abbrev mx : Int := 10 ^ (30 : Int).toNat
theorem mx_eq : mx = ((10 ^ 30 : Nat) : Int) := by decide
def spGreat : Sp := fun vs H Q _ => ∃ (p L : Addr) (rows : List PyData) (S : Addr → Prop), vs = [.ref p, .ref L] ∧ Src H p ∧ Nw S H (.ref L) (.list rows) ∧ (∀ a, S a → a ≠ p) ∧ (∀ a, H a = none → S a) ∧ (∀ d ∈ rows, RowR d) ∧ rows.length ≤ 20 ∧ ∀ L' ds H', (∀ d ∈ ds, RowR d) → ds.length = rows.length + 2 → Src H' p → But p H H' → Nw S H' (.ref L') (.list ds) → Q (.ref L') H'
theorem sc__law_great : FnScope ["source", "rows", "number", "steps", "row"] ["source", "rows"] (defScope s__law_great) := ⟨rfl, rfl, rfl, by decide +kernel, rfl, by decide +kernel, by decide +kernel⟩
theorem ok__law_great (T : Txt w K mg) : CalG P w K mg base 3 "_law_great" ["source", "rows"] spGreat := by
  have c__law_pick := ok_law_pick (P := P) (base := base) T
  refine calG_of T.g__law_great T.d__law_great sc__law_great (fun _ _ _ _ _ _ _ us hl => match us, hl with | [_, _], _ => rfl) (fun vs H Q E h => by obtain ⟨_, _, _, _, rfl, _⟩ := h; rfl) (fun cdv A outer s H vs Q E hr h => ?_)
  have nd := sc__law_great.nd
  have hu := hu64 hr
  obtain ⟨p, L, rows, S, rfl, sp, nL, hSp, hSn, hR, lR, k⟩ := h
  have nb : ∀ {X Y : Hp} {v : V} {d : PyData}, Nw S X v d → But p X Y → Nw S Y v d := fun h b => h.keep (fun a o s z => ⟨b _ _ (hSp a s) z, s⟩) _
  have nn : ∀ {X : Hp} {a : Addr}, But p H X → a ≠ p → X a = none → S a := fun b ap h => hSn _ (b.noneOf ap h)
  refine ⟨_, (pss_cons (ps_set (i := 2) nd rfl (Or.inl rfl) (pe_ix (ixK (K := K)) (pe_lst (pa_cons (pe_op op_pow pe_int pe_int) (pa_cons (pe_un un_neg (pe_op op_pow pe_int pe_int)) (pa_cons (pe_op op_sub (pe_op op_pow pe_int pe_int) (pe_cal c__law_pick hr (by omega) (fun σ => L2N.passAt (L2N.takes_of rfl rfl rfl rfl) σ) (pa_cons (pv 0) (pa_cons pe_int pa_nil)))) (pa_cons (pe_cal c__law_pick hr (by omega) (fun σ => L2N.passAt (L2N.takes_of rfl rfl rfl rfl) σ) (pa_cons (pv 0) (pa_cons (pe_op op_pow pe_int pe_int) pa_nil))) pa_nil))))) (pe_cal c__law_pick hr (by omega) (fun σ => L2N.passAt (L2N.takes_of rfl rfl rfl rfl) σ) (pa_cons (pv 0) (pa_cons pe_int pa_nil))) (fun _ _ => rfl)))
        (pss_cons (ps_set (i := 3) nd rfl (Or.inl rfl) (pe_lst (pa_cons (pe_tup (pa_cons pe_str (pa_cons (pv 2) pa_nil))) (pa_cons (pe_tup (pa_cons pe_str (pa_cons (pv 2) (pa_cons (pe_un un_neg pe_int) pa_nil)))) (pa_cons (pe_tup (pa_cons pe_str (pa_cons (pe_callB cr_abs (by rfl) T.f_abs (by decide +kernel) (pa_cons (pv 2) pa_nil)) (pa_cons pe_int pa_nil)))) pa_nil)))))
        (pss_cons (ps_set (i := 4) nd rfl (Or.inl rfl) (pe_tup (pa_cons pe_str (pa_cons (pe_callB cr_abs (by rfl) T.f_abs (by decide +kernel) (pa_cons (pv 2) pa_nil)) (pa_cons (pe_lst (pa_cons (pe_tup (pa_cons pe_str (pa_cons (pe_lst (pa_cons (pe_ix (ixK (K := K)) (pv 3) (pe_cal c__law_pick hr (by omega) (fun σ => L2N.passAt (L2N.takes_of rfl rfl rfl rfl) σ) (pa_cons (pv 0) (pa_cons pe_int pa_nil))) (fun _ _ => rfl)) pa_nil)) pa_nil))) (pa_cons (pe_tup (pa_cons pe_str (pa_cons (pe_lst (pa_cons (pe_tup (pa_cons pe_str (pa_cons (pe_ifExp (pt_cmpR op_lt (pe_callB cr_abs (by rfl) T.f_abs (by decide +kernel) (pa_cons (pv 2) pa_nil)) (pe_op op_pow pe_int pe_int) (nomark _)) (pe_op (plusK (K := K)) (pe_callB cr_abs (by rfl) T.f_abs (by decide +kernel) (pa_cons (pv 2) pa_nil)) pe_int) pe_int) (pa_cons pe_int pa_nil)))) pa_nil)) pa_nil))) pa_nil))) pa_nil)))))
        (pss_one (ps_ret (pe_op (plusK (K := K)) (pv 1) (pe_lst (pa_cons (pv 4) (pa_cons (pe_tup (pa_cons pe_str (pa_cons pe_int (pa_cons (pe_callB cr_abs (by rfl) T.f_abs (by decide +kernel) (pa_cons (pv 2) pa_nil)) (pa_cons (pv 2) pa_nil))))) pa_nil))))))))), ?_⟩
  walk_at "st"
  refine ⟨p, 9, rfl, sp, by decide, by decide, fun r1 H1 r10 r19 s1 n1 => ?_⟩
  walk_at "st"
  refine ⟨p, _, rfl, s1, by decide, by decide, fun r2 H2 r20 r2m s2 n2 => ?_⟩
  walk_at "st"
  intro q H3 hq e3 h3
  walk_at "st"
  have s3 := s2.ext e3
  have b3 := ((But.of n1).trans (But.of n2)).ext e3
  refine ⟨p, 4, rfl, s3, by decide, by decide, fun r3 H4 r30 r34 s4 n4 => ?_⟩
  have b4 := b3.trans (.of n4)
  have qp : q ≠ p := (src_ne s2 hq).symm
  obtain ⟨z, rfl, zl⟩ := npick (m := 4) r30 r34
  obtain ⟨M, hM⟩ : ∃ M : Nat, M = 10 ^ 30 := ⟨_, rfl⟩
  have em : (10 : Int) ^ (30 : Int).toNat = ((M : Nat) : Int) := by rw [hM]; decide
  have M1 : 1 ≤ M := by rw [hM]; decide
  have em2 : (10 : Int) ^ (12 : Int).toNat = ((10 ^ 12 : Nat) : Int) := by decide
  rw [em2] at r2m
  rw [em] at h3
  obtain ⟨n, en, hn⟩ : ∃ n : Int, ([V.int ((M : Nat) : Int), .int (-((M : Nat) : Int)), .int (((M : Nat) : Int) - r1), .int r2] : List V)[z]? = some (.int n) ∧ n.natAbs ≤ M := by
    have h12 : (10 ^ 12 : Nat) ≤ M := by rw [hM]; decide
    generalize (10 ^ 12 : Nat) = M2 at r2m h12
    have h9 : 9 ≤ M := by rw [hM]; decide
    match z, zl with
    | 0, _ => exact ⟨_, rfl, by omega⟩
    | 1, _ => exact ⟨_, rfl, by omega⟩
    | 2, _ => exact ⟨_, rfl, by omega⟩
    | 3, _ => exact ⟨_, rfl, by omega⟩
  refine r_atL (sqL (stay n4 qp h3)) (atI_nat en) ?_
  have nL4 := nb nL b4
  clear nL h3 en b3 hq e3 qp
  obtain ⟨m, em3, hm⟩ : ∃ m : Nat, (if n < 0 then -n else n) = (m : Int) ∧ m ≤ M := ⟨n.natAbs, by split <;> omega, hn⟩
  walk_at "st"
  intro t1 H5 ht1 e5 h5
  walk_at "st"
  intro t2 H6 ht2 e6 h6
  walk_at "st"
  rw [em3]
  intro t3 H7 ht3 e7 h7
  walk_at "st"
  intro sl H8 hsl e8 h8
  walk_at "st"
  have e48 := ((e5.trans e6).trans e7).trans e8
  have s8 := s4.ext e48
  refine ⟨p, 3, rfl, s8, by decide, by decide, fun r4 H9 r40 r43 s9 n9 => ?_⟩
  have b49 := (ext_but (p := p) e48).trans (.of n9)
  have slp : sl ≠ p := (src_ne (((s4.ext e5).ext e6).ext e7) hsl).symm
  have t1p : t1 ≠ p := (src_ne s4 ht1).symm
  have t2p : t2 ≠ p := (src_ne (s4.ext e5) ht2).symm
  have t3p : t3 ≠ p := (src_ne ((s4.ext e5).ext e6) ht3).symm
  obtain ⟨y, dy, ey, ny, pR⟩ : ∃ (y : V) (dy : PyData), ([V.ref t1, .ref t2, .ref t3] : List V)[r4.toNat]? = some y ∧ Nw S H9 y dy ∧ StepR dy := by
    obtain ⟨z2, rfl, zl2⟩ := npick (m := 3) r40 r43
    rw [Int.toNat_natCast]
    have m1 : Nw S H9 (.ref t1) (.tuple [.str "go", .int n]) := .tup (nn b4 t1p ht1) (stay n9 t1p ((e6.trans (e7.trans e8)) _ _ h5)) (.cons (.str _) (.cons (.int _) .nil))
    have m2 : Nw S H9 (.ref t2) (.tuple [.str "here", .int n, .int (-1)]) := .tup (nn (b4.ext e5) t2p ht2) (stay n9 t2p ((e7.trans e8) _ _ h6)) (.cons (.str _) (.cons (.int _) (.cons (.int _) .nil)))
    have m3 : Nw S H9 (.ref t3) (.tuple [.str "head", .int (m : Nat), .int 1]) := .tup (nn ((b4.ext e5).ext e6) t3p ht3) (stay n9 t3p (e8 _ _ h7)) (.cons (.str _) (.cons (.int _) (.cons (.int _) .nil)))
    match z2, zl2 with
    | 0, _ => exact ⟨_, _, rfl, m1, .go n (hM ▸ hn)⟩
    | 1, _ => exact ⟨_, _, rfl, m2, .sz "here" n (-1) (by simp) (hM ▸ hn) (.inr rfl) (fun z => absurd z (by decide +kernel)) (fun z => absurd z (by decide +kernel))⟩
    | 2, _ => exact ⟨_, _, rfl, m3, .sz "head" (m : Nat) 1 (by simp) (by rw [Int.natAbs_natCast]; exact hM ▸ hm) (.inl rfl) (fun _ => by omega) (fun z => absurd z (by decide +kernel))⟩
  have nL9 := nb nL4 b49
  have b9 := b4.trans b49
  obtain ⟨z2, rfl, zl2⟩ := npick (m := 3) r40 r43
  rw [Int.toNat_natCast] at ey
  refine r_atL (sqL (stay n9 slp h8)) (atI_nat ey) ?_
  clear h5 h6 h7 h8 e5 e6 e7 e8
  walk_at "st"
  intro u1 G1 hu1 f1 g1
  walk_at "st"
  intro u2 G2 hu2 f2 g2
  walk_at "st"
  rw [em3, em]
  have mtl : ∃ w : Int, (if decide ((m : Int) < ((M : Nat) : Int)) = true then (m : Int) + 1 else 1) = w ∧ 1 ≤ w ∧ w.natAbs ≤ M := by
    refine ⟨_, rfl, ?_, ?_⟩
    · split <;> omega
    · split
      · rename_i c
        have c := of_decide_eq_true c
        omega
      · omega
  obtain ⟨w, ew, w1, w2⟩ := mtl
  have s11 := (s9.ext f1).ext f2
  refine ite_joinE (fun v H' => v = .int w ∧ H' = G2) (fun Q' hq => ?_) ?_
  · refine ite_b (fun c => ?_) (fun c => ?_)
    · rw [if_pos c] at ew
      walk_at "st"
      rw [em3, ew]
      exact hq _ _ ⟨rfl, rfl⟩
    · rw [if_neg (by rw [c]; exact Bool.noConfusion)] at ew
      walk_at "st"
      rw [ew]
      exact hq _ _ ⟨rfl, rfl⟩
  rintro v G2' ⟨rfl, rfl⟩
  walk_at "st"
  intro u3 G3 hu3 f3 g3
  walk_at "st"
  intro u4 G4 hu4 f4 g4
  walk_at "st"
  intro u5 G5 hu5 f5 g5
  walk_at "st"
  intro u6 G6 hu6 f6 g6
  walk_at "st"
  intro u7 G7 hu7 f7 g7
  walk_at "st"
  rw [em3]
  intro u8 G8 hu8 f8 g8
  walk_at "st"
  intro u9 G9 hu9 f9 g9
  walk_at "st"
  have s2' := (s9.ext f1).ext f2
  have s3' := s2'.ext f3
  have s4' := s3'.ext f4
  have s5' := s4'.ext f5
  have s6' := s5'.ext f6
  have s7' := s6'.ext f7
  have s8' := s7'.ext f8
  have np : ∀ {X : Hp} {a : Addr}, (Src X p ∧ But p H X) → X a = none → S a := fun s h => nn s.2 (src_ne s.1 h).symm h
  have q1' := And.intro (s9.ext f1) (b9.ext f1)
  have q2' := And.intro s2' (q1'.2.ext f2)
  have q3' := And.intro s3' (q2'.2.ext f3)
  have q4' := And.intro s4' (q3'.2.ext f4)
  have q5' := And.intro s5' (q4'.2.ext f5)
  have q6' := And.intro s6' (q5'.2.ext f6)
  have q7' := And.intro s7' (q6'.2.ext f7)
  have q8' := And.intro s8' (q7'.2.ext f8)
  have rowD : RowR (.tuple [.str "find", .int (m : Nat), .list [.tuple [.str "front", .list [dy]], .tuple [.str "end", .list [.tuple [.str "tail", .int w, .int 1]]]]]) := by
    refine .find m _ (hM ▸ hm) (fun d hd => ?_) (by show 2 ≤ 7; decide)
    rcases List.mem_cons.mp hd with rfl | hd
    · exact .mk "front" [dy] (by simp) (fun e he => by rw [List.mem_singleton.mp he]; exact pR) (by show 1 ≤ 10; decide)
    · rw [List.mem_singleton.mp hd]
      exact .mk "end" _ (by simp) (fun e he => by rw [List.mem_singleton.mp he]; exact .sz "tail" w 1 (by simp) (hM ▸ w2) (.inl rfl) (fun z => absurd z (by decide +kernel)) (fun _ => w1)) (by show 1 ≤ 10; decide)
  have tieD : RowR (.tuple [.str "tie", .int ((0 : Nat) : Int), .int (m : Nat), .int n]) := .tie 0 m n (by decide) (hM ▸ hm) (hM ▸ hn)
  have F9 := (((((((f1.trans f2).trans f3).trans f4).trans f5).trans f6).trans f7).trans f8).trans f9
  obtain ⟨La, lxs, eL, Lp, hL, nLs⟩ := nw_lstE nL9
  cases eL
  have hL9 := F9 _ _ hL
  have y9 := nw_ext ny F9
  have nRow : Nw S G9 (.ref u7) _ := .tup (np q6' hu7) ((f8.trans f9) _ _ g7) (.cons (.str "find") (.cons (.int (m : Nat)) (.cons (.lst (np q5' hu6) (((f7.trans f8).trans f9) _ _ g6) (.cons (.tup (np q1' hu2) (((((((f3.trans f4).trans f5).trans f6).trans f7).trans f8).trans f9) _ _ g2) (.cons (.str "front") (.cons (.lst (np ⟨s9, b9⟩ hu1) ((((((((f2.trans f3).trans f4).trans f5).trans f6).trans f7).trans f8).trans f9) _ _ g1) (.cons y9 .nil)) .nil))) (.cons (.tup (np q4' hu5) ((((f6.trans f7).trans f8).trans f9) _ _ g5) (.cons (.str "end") (.cons (.lst (np q3' hu4) (((((f5.trans f6).trans f7).trans f8).trans f9) _ _ g4) (.cons (.tup (np q2' hu3) ((((((f4.trans f5).trans f6).trans f7).trans f8).trans f9) _ _ g3) (.cons (.str "tail") (.cons (.int w) (.cons (.int 1) .nil)))) .nil)) .nil))) .nil))) .nil)))
  have nTie : Nw S G9 (.ref u8) (.tuple [.str "tie", .int ((0 : Nat) : Int), .int (m : Nat), .int n]) := .tup (np q7' hu8) (f9 _ _ g8) (.cons (.str _) (.cons (.int _) (.cons (.int _) (.cons (.int _) .nil))))
  have nL9' : Nws S G9 lxs rows := nLs.keep (fun a o s z => ⟨F9 _ _ z, s⟩) _
  have ll : lxs.length = rows.length := nLs.len
  refine r_catL hL9 g9 (by show lxs.length + 2 ≤ _; omega) (fun LL G10 hLL f10 g10 => ?_)
  refine k LL _ G10 ?_ ?_ ((s8'.ext f9).ext f10) (b9.trans (ext_but (F9.trans f10))) (.lst (np ⟨s8'.ext f9, q8'.2.ext f9⟩ hLL) g10 (Nws.append (nL9'.keep (fun a o s z => ⟨f10 _ _ z, s⟩) _) (.cons (nw_ext nRow f10) (.cons (nw_ext nTie f10) .nil))))
  · intro d hd
    rcases List.mem_append.mp hd with hd | hd
    · exact hR d hd
    · rcases List.mem_cons.mp hd with rfl | hd
      · exact rowD
      · rw [List.mem_singleton.mp hd]
        exact tieD
  · rw [List.length_append]
    rfl
def spDrawn : Sp := fun vs H Q _ => ∃ (p : Addr), vs = [.ref p] ∧ Src H p ∧ ∀ q L rows (a b : Nat) H', (∀ d ∈ rows, RowR d) → rows.length ≤ 20 → a < 30 → b < 12 → Src H' p → But p H H' → q ≠ p → H q = none → H' q = some (.tup [.ref L, .int (a : Nat), .int (b : Nat)]) → Nw (fun b => H b = none) H' (.ref L) (.list rows) → Q (.ref q) H'
theorem sc__law_drawn : FnScope ["source", "rows"] ["source"] (defScope s__law_drawn) := ⟨rfl, rfl, rfl, by decide +kernel, rfl, by decide +kernel, by decide +kernel⟩
theorem ok__law_drawn (T : Txt w K mg) : CalG P w K mg base 6 "_law_drawn" ["source"] spDrawn := by
  have c__law_pick := ok_law_pick (P := P) (base := base) T
  have c__law_shuffled := ok_law_shuffled (P := P) (base := base) T
  have c__law_any_rows := ok__law_any_rows (P := P) (base := base) T
  have c__law_great := ok__law_great (P := P) (base := base) T
  refine calG_of T.g__law_drawn T.d__law_drawn sc__law_drawn (fun _ _ _ _ _ _ _ us hl => match us, hl with | [_], _ => rfl) (fun vs H Q E h => by obtain ⟨_, rfl, _⟩ := h; rfl) (fun cdv A outer s H vs Q E hr h => ?_)
  have nd := sc__law_drawn.nd
  have hu := hu64 hr
  obtain ⟨p, rfl, sp, k⟩ := h
  refine ⟨_, (pss_cons (ps_set (i := 1) nd rfl (Or.inl rfl) (pe_cal c__law_shuffled hr (by omega) (fun σ => L2N.passAt (L2N.takes_of rfl rfl rfl rfl) σ) (pa_cons (pv 0) (pa_cons (pe_cal c__law_any_rows hr (by omega) (fun σ => L2N.passAt (L2N.takes_of rfl rfl rfl rfl) σ) (pa_cons (pv 0) (pa_cons (pe_cal c__law_pick hr (by omega) (fun σ => L2N.passAt (L2N.takes_of rfl rfl rfl rfl) σ) (pa_cons (pv 0) (pa_cons pe_int pa_nil))) (pa_cons pe_int pa_nil)))) pa_nil))))
        (C8.pss_cut (ps_if (pt_cmpR (sameK (K := K) hu) (pe_cal c__law_pick hr (by omega) (fun σ => L2N.passAt (L2N.takes_of rfl rfl rfl rfl) σ) (pa_cons (pv 0) (pa_cons pe_int pa_nil))) pe_int (nomark _)) (pss_one (ps_set (i := 1) nd rfl (Or.inl rfl) (pe_cal c__law_great hr (by omega) (fun σ => L2N.passAt (L2N.takes_of rfl rfl rfl rfl) σ) (pa_cons (pv 0) (pa_cons (pv 1) pa_nil))))) pss_nil)
        (C8.pss_cut (ps_if (pt_cmpR (sameK (K := K) hu) (pe_cal c__law_pick hr (by omega) (fun σ => L2N.passAt (L2N.takes_of rfl rfl rfl rfl) σ) (pa_cons (pv 0) (pa_cons pe_int pa_nil))) pe_int (nomark _)) (pss_one (ps_set (i := 1) nd rfl (Or.inl rfl) (pe_lst pa_nil))) pss_nil)
        (pss_one (ps_ret (pe_tup (pa_cons (pv 1) (pa_cons (pe_cal c__law_pick hr (by omega) (fun σ => L2N.passAt (L2N.takes_of rfl rfl rfl rfl) σ) (pa_cons (pv 0) (pa_cons pe_int pa_nil))) (pa_cons (pe_cal c__law_pick hr (by omega) (fun σ => L2N.passAt (L2N.takes_of rfl rfl rfl rfl) σ) (pa_cons (pv 0) (pa_cons pe_int pa_nil))) pa_nil))))))))), ?_⟩
  walk_at "st"
  refine ⟨p, 7, rfl, sp, by decide, by decide, fun r1 H1 r10 r17 s1 n1 => ?_⟩
  obtain ⟨m, rfl, hm⟩ := npick (m := 7) r10 r17
  walk_at "st"
  refine ⟨p, m, 30, rfl, s1, by omega, by decide, by decide, fun L ds H2 hR lR s2 b12 w2 => ?_⟩
  have b2 := (But.of n1).trans b12
  obtain ⟨La, lxs, eL, Ls, hL, nLs⟩ := nw_lstE w2
  cases eL
  walk_at "st"
  refine ⟨p, L, lxs, rfl, s2, sqL hL, by rw [nLs.len, lR]; omega, fun q H3 ys hq pys s3 h3 b23 => ?_⟩
  have b3 := b2.trans b23
  obtain ⟨es, pes, nys⟩ := nws_permE pys.symm nLs
  have Sp : ∀ a, H a = none → a ≠ p := fun a h => (src_ne sp h).symm
  have nb : ∀ {X Y : Hp} {v : V} {d : PyData}, Nw (fun b => H b = none) X v d → But p X Y → Nw (fun b => H b = none) Y v d := fun h b => h.keep (fun a o s z => ⟨b _ _ (Sp a s) z, s⟩) _
  have q3 : Nw (fun b => H b = none) H3 (.ref q) (.list es) := .lst (b2.noneOf (src_ne s2 hq).symm hq) h3 (nys.keep (fun a o s z => ⟨b23 _ _ (GB.np s1 s) z, (But.of n1).noneOf (GB.np s1 s) s⟩) _)
  have hRe : ∀ d ∈ es, RowR d := fun d hd => hR d (pes.subset hd)
  have lRe : es.length ≤ 7 := by rw [pes.length_eq, lR]; omega
  clear nys pys hR lR w2 nLs hL h3
  walk_at "st"
  refine r_cut (fun σ' H' => ∃ (L' : Addr) (rows : List PyData), σ' = [some (.ref p), some (.ref L')] ∧ Src H' p ∧ But p H H' ∧ Nw (fun b => H b = none) H' (.ref L') (.list rows) ∧ (∀ d ∈ rows, RowR d) ∧ rows.length ≤ 20) ?_ ?_
  · walk_at "st"
    refine ⟨p, 2, rfl, s3, by decide, by decide, fun r4 H4 r40 r42 s4 n4 => ?_⟩
    have b4 := b3.trans (.of n4)
    walk_at "st"
    refine ite_d (fun c => ?_) (fun c => ?_)
    · walk_at "st"
      refine ⟨p, q, es, _, rfl, s4, nb q3 (.of n4), Sp, fun a h => b4.noneOf (src_ne s4 h).symm h, hRe, by omega, fun L' ds' H5 hR5 lR5 s5 b5 w5 => ?_⟩
      walk_at "st"
      exact ⟨L', ds', rfl, s5, b4.trans b5, w5, hR5, by omega⟩
    · walk_at "st"
      exact ⟨q, es, rfl, s4, b4, nb q3 (.of n4), hRe, by omega⟩
  rintro σ' H5 ⟨L', rows, rfl, s5, b5, w5, hR5, lR5⟩
  walk_at "st"
  refine r_cut (fun σ' H' => ∃ (L' : Addr) (rows : List PyData), σ' = [some (.ref p), some (.ref L')] ∧ Src H' p ∧ But p H H' ∧ Nw (fun b => H b = none) H' (.ref L') (.list rows) ∧ (∀ d ∈ rows, RowR d) ∧ rows.length ≤ 20) ?_ ?_
  · walk_at "st"
    refine ⟨p, 8, rfl, s5, by decide, by decide, fun r6 H6 r60 r68 s6 n6 => ?_⟩
    have b6 := b5.trans (.of n6)
    have w6 := nb w5 (.of n6)
    walk_at "st"
    refine ite_d (fun c => ?_) (fun c => ?_)
    · walk_at "st"
      intro L2 H7 hL2 e7 h7
      walk_at "st"
      exact ⟨L2, [], rfl, s6.ext e7, b6.ext e7, .lst (b6.noneOf (src_ne s6 hL2).symm hL2) h7 .nil, (fun d hd => nomatch hd), Nat.zero_le _⟩
    · walk_at "st"
      exact ⟨L', rows, rfl, s6, b6, w6, hR5, lR5⟩
  clear w5 hR5 lR5
  rintro σ' H7 ⟨L', rows, rfl, s7, b7, w7, hR7, lR7⟩
  walk_at "st"
  refine ⟨p, 30, rfl, s7, by decide, by decide, fun r8 H8 r80 r8m s8 n8 => ?_⟩
  walk_at "st"
  refine ⟨p, 12, rfl, s8, by decide, by decide, fun r9 H9 r90 r9m s9 n9 => ?_⟩
  obtain ⟨a, rfl, ha⟩ := npick (m := 30) r80 r8m
  obtain ⟨b, rfl, hb⟩ := npick (m := 12) r90 r9m
  walk_at "st"
  intro t H10 ht e10 h10
  have b9 := (b7.trans (.of n8)).trans (.of n9)
  have tp : t ≠ p := (src_ne s9 ht).symm
  exact k t L' rows a b H10 hR7 lR7 ha hb (s9.ext e10) (b9.ext e10) tp (b9.noneOf tp ht) h10 (nw_ext (nb (nb w7 (.of n8)) (.of n9)) e10)

end
end K35
set_option maxRecDepth 100000
set_option maxHeartbeats 4000000
namespace K35
open PySem PySem.Spec PyProof.Rows L2 L3
local macro_rules | `(tactic| walk_at "s1") => `(tactic| first
  | with_reducible refine r_seq ?_
  | with_reducible refine r_asgN ?_
  | with_reducible refine r_ret ?_
  | with_reducible refine r_next ?_
  | ((with_reducible refine' r_var ?hv ?_); (case hv => exact rfl))
  | with_reducible refine r_c ?_
  | with_reducible refine r_op ?_
  | with_reducible refine r_cons ?_
  | with_reducible refine r_nil ?_
  | with_reducible refine r_plusI ?_
  | with_reducible refine r_I0 ?_
  | with_reducible refine r_test ?_
  | with_reducible refine r_bl ?_
  | with_reducible refine r_ifS ?_
  | with_reducible refine r_cb ?_
  | with_reducible refine r_callS ?_
  | with_reducible refine r_and ?_
  | with_reducible refine r_or ?_
  | with_reducible refine r_not ?_
  | with_reducible refine r_B ?_
  | ((with_reducible refine' r_aug ?hv ?_); (case hv => exact rfl))
  | with_reducible refine r_augS ?_
  | with_reducible refine r_ipI ?_
  | with_reducible refine r_asg ?_
  | with_reducible refine r_sub ?_
  | with_reducible refine r_brk ?_
  | with_reducible refine r_isN1 ?_
  | with_reducible refine r_notN1 ?_
  | with_reducible refine r_intI ?_
  | with_reducible refine r_abs ?_
  | with_reducible refine r_min ?_
  | with_reducible refine r_max ?_
  | ((with_reducible refine' r_mod ?hz ?_); (case hz => omega))
  | ((with_reducible refine' r_pow ?hz ?_); (case hz => exact ⟨by decide, by decide, by decide⟩))
  | ((with_reducible refine' r_rg1 ?hz ?_); (case hz => omega))
  | ((with_reducible refine' r_rg2 ?hz ?_); (case hz => omega))
  | ((with_reducible refine' r_newL ?hz ?_); (case hz => exact Nat.le_of_ble_eq_true rfl))
  | ((with_reducible refine' r_newT ?hz ?_); (case hz => exact Nat.le_of_ble_eq_true rfl))
  | with_reducible refine r_for ?_
  | with_reducible refine r_lc ?_
  | with_reducible refine r_iR1 ?_
  | with_reducible refine r_iR2 ?_
  | with_reducible refine r_iL ?_
  | with_reducible refine r_iT ?_
  | with_reducible refine r_gname ?_
  | with_reducible refine r_gcons ?_
  | with_reducible refine r_gnil ?_
  | with_reducible refine r_yes ?_
  | with_reducible refine r_mkO ?_
  | with_reducible refine r_cont ?_
  | with_reducible refine r_drop ?_
  | with_reducible refine r_retN ?_
  | with_reducible refine r_ifC ?_
  | with_reducible refine r_ifI ?_
  | with_reducible refine r_if ?_
  | with_reducible refine r_un ?_
  | with_reducible refine r_neg ?_
  | with_reducible refine r_andV ?_
  | with_reducible refine r_orV ?_
  | with_reducible refine r_notV ?_
  | with_reducible refine r_tup ?_
  | with_reducible refine r_lst ?_
  | with_reducible refine r_bm ?_
  | with_reducible refine r_bm0 ?_
  | with_reducible refine r_sl ?_
  | with_reducible refine r_chain ?_
  | with_reducible refine r_listDn ?_
  | with_reducible refine r_listRg2 ?_
  | with_reducible refine r_listRg1 ?_
  | with_reducible refine r_revL ?_
  | with_reducible refine r_noPart ?_
  | with_reducible refine r_meth ?_
  | with_reducible refine r_methE ?_
  | with_reducible refine r_js ?_
  | with_reducible refine r_jsC ?_
  | with_reducible refine r_jsN ?_
  | with_reducible refine r_fmt ?_
  | with_reducible refine r_fld ?_
  | with_reducible refine r_sfld ?_
  | with_reducible refine r_make ?_
  | with_reducible refine r_m1 ?_
  | with_reducible refine r_m1s ?_
  | with_reducible refine r_iS ?_
  | with_reducible refine r_iE ?_
  | with_reducible refine r_si ?_
  | with_reducible refine r_strS ?_
  | with_reducible refine r_dgt ?_
  | with_reducible refine r_din ?_
  | with_reducible refine r_dnin ?_
  | with_reducible refine r_dput ?_
  | with_reducible refine r_dnew ?_
  | with_reducible refine r_disp1 ?_
  | with_reducible refine r_lenSet ?_
  | with_reducible refine r_get2 ?_
  | with_reducible refine r_get1 ?_
  | with_reducible refine r_daug ?_
  | with_reducible refine r_iR3 ?_
  | with_reducible refine r_prC ?_
  | with_reducible refine r_prN ?_
  | with_reducible refine r_part ?_
  | with_reducible refine r_int ?_
  | ((with_reducible refine' r_sameS ?hs ?_); (case hs => exact rfl))
  | ((with_reducible refine' r_otherS ?hs ?_); (case hs => exact rfl))
  | with_reducible refine ite_t ?_
  | with_reducible refine ite_f ?_
  | with_reducible refine ite_nt ?_
  | with_reducible refine ite_nf ?_)
local macro_rules | `(tactic| walk_at "st") => `(tactic| repeat (walk_at "s1"))
local macro_rules | `(tactic| walk_at "su") => `(tactic| first
  | with_reducible refine r_seq ?_
  | with_reducible refine r_asgN ?_
  | with_reducible refine r_ret ?_
  | with_reducible refine r_next ?_
  | ((with_reducible refine' r_var ?hv ?_); (case hv => exact rfl))
  | with_reducible refine r_c ?_
  | with_reducible refine r_op ?_
  | with_reducible refine r_cons ?_
  | with_reducible refine r_nil ?_
  | with_reducible refine r_plusI ?_
  | with_reducible refine r_I0 ?_
  | with_reducible refine r_test ?_
  | with_reducible refine r_bl ?_
  | with_reducible refine r_cb ?_
  | with_reducible refine r_callS ?_
  | with_reducible refine r_and ?_
  | with_reducible refine r_or ?_
  | with_reducible refine r_not ?_
  | with_reducible refine r_B ?_
  | ((with_reducible refine' r_aug ?hv ?_); (case hv => exact rfl))
  | with_reducible refine r_augS ?_
  | with_reducible refine r_ipI ?_
  | with_reducible refine r_asg ?_
  | with_reducible refine r_sub ?_
  | with_reducible refine r_brk ?_
  | with_reducible refine r_isN1 ?_
  | with_reducible refine r_notN1 ?_
  | with_reducible refine r_intI ?_
  | with_reducible refine r_abs ?_
  | with_reducible refine r_min ?_
  | with_reducible refine r_max ?_
  | ((with_reducible refine' r_mod ?hz ?_); (case hz => omega))
  | ((with_reducible refine' r_pow ?hz ?_); (case hz => exact ⟨by decide, by decide, by decide⟩))
  | ((with_reducible refine' r_rg1 ?hz ?_); (case hz => omega))
  | ((with_reducible refine' r_rg2 ?hz ?_); (case hz => omega))
  | ((with_reducible refine' r_newL ?hz ?_); (case hz => exact Nat.le_of_ble_eq_true rfl))
  | ((with_reducible refine' r_newT ?hz ?_); (case hz => exact Nat.le_of_ble_eq_true rfl))
  | with_reducible refine r_for ?_
  | with_reducible refine r_lc ?_
  | with_reducible refine r_iR1 ?_
  | with_reducible refine r_iR2 ?_
  | with_reducible refine r_iL ?_
  | with_reducible refine r_iT ?_
  | with_reducible refine r_gname ?_
  | with_reducible refine r_gcons ?_
  | with_reducible refine r_gnil ?_
  | with_reducible refine r_yes ?_
  | with_reducible refine r_mkO ?_
  | with_reducible refine r_cont ?_
  | with_reducible refine r_drop ?_
  | with_reducible refine r_retN ?_
  | with_reducible refine r_ifC ?_
  | with_reducible refine r_ifI ?_
  | with_reducible refine r_if ?_
  | with_reducible refine r_un ?_
  | with_reducible refine r_neg ?_
  | with_reducible refine r_andV ?_
  | with_reducible refine r_orV ?_
  | with_reducible refine r_notV ?_
  | with_reducible refine r_tup ?_
  | with_reducible refine r_lst ?_
  | with_reducible refine r_bm ?_
  | with_reducible refine r_bm0 ?_
  | with_reducible refine r_sl ?_
  | with_reducible refine r_chain ?_
  | with_reducible refine r_listDn ?_
  | with_reducible refine r_listRg2 ?_
  | with_reducible refine r_listRg1 ?_
  | with_reducible refine r_revL ?_
  | with_reducible refine r_noPart ?_
  | with_reducible refine r_meth ?_
  | with_reducible refine r_methE ?_
  | with_reducible refine r_js ?_
  | with_reducible refine r_jsC ?_
  | with_reducible refine r_jsN ?_
  | with_reducible refine r_fmt ?_
  | with_reducible refine r_fld ?_
  | with_reducible refine r_sfld ?_
  | with_reducible refine r_make ?_
  | with_reducible refine r_m1 ?_
  | with_reducible refine r_m1s ?_
  | with_reducible refine r_iS ?_
  | with_reducible refine r_iE ?_
  | with_reducible refine r_si ?_
  | with_reducible refine r_strS ?_
  | with_reducible refine r_dgt ?_
  | with_reducible refine r_din ?_
  | with_reducible refine r_dnin ?_
  | with_reducible refine r_dput ?_
  | with_reducible refine r_dnew ?_
  | with_reducible refine r_disp1 ?_
  | with_reducible refine r_lenSet ?_
  | with_reducible refine r_get2 ?_
  | with_reducible refine r_get1 ?_
  | with_reducible refine r_daug ?_
  | with_reducible refine r_iR3 ?_
  | with_reducible refine r_prC ?_
  | with_reducible refine r_prN ?_
  | with_reducible refine r_part ?_
  | with_reducible refine r_int ?_
  | ((with_reducible refine' r_sameS ?hs ?_); (case hs => exact rfl))
  | ((with_reducible refine' r_otherS ?hs ?_); (case hs => exact rfl))
  | with_reducible refine ite_t ?_
  | with_reducible refine ite_f ?_
  | with_reducible refine ite_nt ?_
  | with_reducible refine ite_nf ?_)
local macro_rules | `(tactic| walk_at "sv") => `(tactic| repeat (walk_at "su"))

section
variable {P : Program} {w : World} {K : PySem.W.Frag} {mg : Str → Option Value} {base : Heap}

section
variable {H1 : Hp} {D : Addr} {Qd : Hp → Prop} {g : TG} {tt : TT} {te : TE} {vs : List Nat} {σ : L2.St}
/-- comprehension over a text -/
theorem lcW_str {z : Str} (Pv : Nat → Hp → Prop) (h0 : Pv 0 (upd H1 D (.lst [])))
    (hs : ∀ i c H, z.cps.toList[i]? = some c → Pv i H → g (.str ⟨#[c]⟩) (wipe σ vs) H fun σ2 H2 => wipe σ2 vs = wipe σ vs ∧ tt σ2 H2 fun b H3 =>
      if b = true then te σ2 H3 fun y H4 => ∃ acc, H4 D = some (.lst acc) ∧ acc.length < sizeLine ∧ Pv (i + 1) (upd H4 D (.lst (acc ++ [y]))) else Pv (i + 1) H3) (hd : ∀ H, Pv z.cps.size H → Qd H) : LcW (Its z) g tt te vs σ D Qd H1 := by
  refine ⟨fun i m H => m = z.cps.size - i ∧ i ≤ z.cps.size ∧ Pv i H, ⟨_, rfl, Nat.zero_le _, h0⟩, ?_⟩
  rintro i m H ⟨rfl, hi, p⟩
  by_cases c : z.cps.size ≤ i
  · exact .inl ⟨c, hd H (by rw [show z.cps.size = i by omega]; exact p)⟩
  · refine .inr ⟨Nat.lt_of_not_le c, Pv (i + 1), fun H' p' => ⟨z.cps.size - (i + 1), by omega, rfl, by omega, p'⟩, ?_⟩
    rintro x H' ⟨rfl, ch, hc, rfl⟩
    exact hs i ch _ (by rw [Array.getElem?_toList]; exact hc) p
end

/-! ### right lines, and what is told of them when they are spoilt -/
def numB (x : Str) : Bool := let v := if neg1 x = true then Txt.slice x (some 1) none else x; (!decide (v = e0)) && v.cps.toList.all isDig
def noneF (hd : Bool) (ws : List Str) : Prop := if hd = true then headF ws = none else rowF ws = none
def noneL (hd : Bool) (x : Str) : Prop := if hd = true then headL x = none else rowL x = none
theorem noneL_parts {hd : Bool} {x : Str} (h : partsF x = none) : noneL hd x := by
  unfold noneL headL rowL
  rw [h]
  split <;> rfl
theorem noneL_w {hd : Bool} {ws : List Str} (ne : ws ≠ []) (h : ∀ x ∈ ws, WOk x) (n : noneF hd ws) : noneL hd (jn ws) := by
  unfold noneL
  unfold noneF at n
  split
  · rename_i c
    rw [if_pos c] at n
    rw [headL_w ne h]
    exact n
  · rename_i c
    rw [if_neg c] at n
    rw [rowL_w ne h]
    exact n
structure LnR (hd : Bool) (ws : List Str) : Prop where
  ok : ∀ w ∈ ws, WOk w
  l2 : 2 ≤ ws.length
  len : ws.length ≤ 230
  num1 : numB (ws.getD 1 e0) = true
  nums : ∀ w ∈ ws, numB w = true → ∃ n : Int, w = numZ n ∧ n.natAbs ≤ 10 ^ 30
  set : ∀ (i : Nat) (w' w : Str) (n : Int), ws[i]? = some w → sgnO w = some n → sgnO w' = none → w' ≠ "or" → noneF hd (ws.set i w')
  x : noneF hd (ws ++ [("x" : Str)])
  or_ : noneF hd (ws ++ [("or" : Str)])
  mid : ∀ y : Str, y = "or" ∨ y = "front" → noneF hd (ws ++ ([y, "middle", "go", "1"] : List Str))
  fin : noneF hd (("fin" : Str) :: ws.drop 1)
theorem LnR.ne {hd : Bool} {ws : List Str} (h : LnR hd ws) : ws ≠ [] := fun z => by have := h.l2; rw [z] at this; exact absurd this (by decide)
theorem numB_nat (a : Nat) : numB (numZ (a : Nat)) = true := by
  have e : TL.tl (numS a) = TL.numL a := numS_tl a
  have n1 : ¬ neg1 (numS a) = true := by
    rw [neg1_iff, e]
    intro z
    have hm : 45 ∈ TL.numL a := List.mem_of_mem_take (i := 1) (by rw [z]; simp)
    have := TL.numL_digits a 45 hm
    omega
  rw [numZ_nat]
  unfold numB
  rw [if_neg n1]
  show ((!decide (numS a = e0)) && (numS a).cps.toList.all isDig) = true
  have e' : (numS a).cps.toList = TL.numL a := e
  rw [e', numL_dig, Bool.and_true, Bool.not_eq_true', decide_eq_false_iff_not]
  intro z
  rw [z] at e
  exact TL.numL_ne a e.symm
theorem kw_nonum : (["go", "head", "tail", "here", "front", "end", "find", "leaf", "tie", "code", "or"] : List Str).all (fun s => !numB s) = true := by decide +kernel
theorem kw_num {s : Str} (h : s ∈ (["go", "head", "tail", "here", "front", "end", "find", "leaf", "tie", "code", "or"] : List Str)) : numB s = false := by
  have := List.all_eq_true.mp kw_nonum s h
  rwa [Bool.not_eq_true'] at this
inductive WdR : Str → Prop
  | kw (s : Str) : s ∈ (["go", "head", "tail", "here", "front", "end", "find", "leaf", "tie", "code", "or"] : List Str) → WdR s
  | num (n : Int) : n.natAbs ≤ 10 ^ 30 → WdR (numZ n)
theorem WdR.nums {w : Str} (h : WdR w) (hn : numB w = true) : ∃ n : Int, w = numZ n ∧ n.natAbs ≤ 10 ^ 30 := by
  cases h with
  | kw s hs => rw [kw_num hs] at hn; cases hn
  | num n h => exact ⟨n, rfl, h⟩
theorem StepR.wdr {d : PyData} (h : StepR d) : ∀ w ∈ stepW d, WdR w := by
  intro w hw
  cases h with
  | go n hn =>
    simp only [stepW, List.map_cons, List.map_nil, List.mem_cons, List.not_mem_nil, or_false, wz] at hw
    rcases hw with rfl | rfl
    · exact .kw _ (by simp)
    · exact .num n hn
  | sz k n s hk hn hs h1 h2 =>
    simp only [stepW, List.map_cons, List.map_nil, List.mem_cons, List.not_mem_nil, or_false, wz] at hw
    rcases hw with rfl | rfl | rfl
    · simp only [List.mem_cons, List.not_mem_nil, or_false] at hk
      rcases hk with rfl | rfl | rfl
      · exact .kw _ (by simp)
      · exact .kw _ (by simp)
      · exact .kw _ (by simp)
    · exact .num n hn
    · exact .num s (sgn_1 hs)
theorem WayR.wdr {d : PyData} (h : WayR d) : ∀ w ∈ wayW d, WdR w := by
  cases h with
  | mk b l hb hl ll =>
    intro w hw
    rcases List.mem_cons.mp (show w ∈ b :: l.flatMap stepW from hw) with rfl | hw
    · simp only [List.mem_cons, List.not_mem_nil, or_false] at hb
      rcases hb with rfl | rfl
      · exact .kw _ (by simp)
      · exact .kw _ (by simp)
    · obtain ⟨s, hs, hw⟩ := List.mem_flatMap.mp hw
      exact (hl s hs).wdr w hw
theorem RowR.wdr {d : PyData} (h : RowR d) : ∀ w ∈ rowW d, WdR w := by
  intro w hw
  cases h with
  | leaf a b h1 h2 =>
    simp only [rowW, List.map_cons, List.map_nil, List.mem_cons, List.not_mem_nil, or_false, wz] at hw
    rcases hw with rfl | rfl | rfl
    · exact .kw _ (by simp)
    · exact .num _ (by omega)
    · exact .num _ (by omega)
  | tie a b c h1 h2 h3 =>
    simp only [rowW, List.map_cons, List.map_nil, List.mem_cons, List.not_mem_nil, or_false, wz] at hw
    rcases hw with rfl | rfl | rfl | rfl
    · exact .kw _ (by simp)
    · exact .num _ (by omega)
    · exact .num _ (by omega)
    · exact .num _ h3
  | find a l h1 hl ll =>
    rcases List.mem_cons.mp (show w ∈ ("find" : Str) :: numZ (a : Nat) :: joinOr (l.map wayW) from hw) with rfl | hw
    · exact .kw _ (by simp)
    rcases List.mem_cons.mp hw with rfl | hw
    · exact .num _ (by omega)
    rcases joinOr_mem hw with rfl | ⟨g, hg, hw⟩
    · exact .kw _ (by simp)
    · obtain ⟨y, hy, rfl⟩ := List.mem_map.mp hg
      exact (hl y hy).wdr w hw
theorem RowR.num1 {d : PyData} (h : RowR d) : numB ((rowW d).getD 1 e0) = true := by
  cases h with
  | leaf a b h1 h2 => exact numB_nat a
  | tie a b c h1 h2 h3 => exact numB_nat a
  | find a l h1 hl ll => exact numB_nat a
theorem RowR.ln {d : PyData} (h : RowR d) : LnR false (rowW d) :=
  ⟨fun w hw => (h.words.1 w hw).1, h.words.2.2, h.words.2.1, h.num1, fun w hw hn => (h.wdr w hw).nums hn, fun i w' w n e hs h1 h2 => h.rp h1 h2 (.of_set e hs), h.bad_x, h.bad_or, fun y hy => h.bad_mid hy, h.bad_fin⟩
theorem head_ln {a b : Nat} (h1 : a ≤ 10 ^ 30) (h2 : b ≤ 10 ^ 30) : LnR true (headW a b) :=
  ⟨fun w hw => (head_words h1 h2 w hw).1, by show 2 ≤ 3; decide, by show 3 ≤ 230; decide, numB_nat a, fun w hw hn => by
    have hd : WdR w := by
      rcases List.mem_cons.mp (show w ∈ [("code" : Str), numZ (a : Nat), numZ (b : Nat)] from hw) with rfl | hw
      · exact .kw _ (by simp)
      rcases List.mem_cons.mp hw with rfl | hw
      · exact .num _ (by omega)
      · rw [List.mem_singleton.mp hw]
        exact .num _ (by omega)
    exact hd.nums hn, fun i w' w n e hs h1 h2 => head_rp h1 (.of_set e hs), head_ext (by simp), head_ext (by simp), fun y hy => head_ext (by simp), head_fin⟩
/-- a spoilt line -/
structure BadLn (hd : Bool) (x : Str) : Prop where
  nl : ∀ c ∈ x.cps.toList, c ≠ 10
  len : x.length ≤ 20000
  bad : noneL hd x
def WLn (w : Str) : Prop := w.length ≤ 60 ∧ ∀ c ∈ w.cps.toList, c ≠ 10 ∧ c ≠ 32
theorem BadLn.of {hd : Bool} {ws : List Str} (w : ∀ x ∈ ws, WLn x) (hl : ws.length ≤ 240) (n : noneL hd (jn ws)) : BadLn hd (jn ws) := by
  refine ⟨fun c hc => ?_, ?_, n⟩
  · have hc : c ∈ TL.tl (jn ws) := hc
    rw [jn_tl, sp1_tl] at hc
    rcases mem_joinL hc with hc | ⟨p, hp, hc⟩
    · have : c = 32 := by simpa using hc
      omega
    · obtain ⟨x, hx, rfl⟩ := List.mem_map.mp hp
      exact ((w x hx).2 c hc).1
  · have := jn_le (l := ws) (m := 60) (n := 240) (fun s hs => (w s hs).1) hl
    omega
theorem WOk.ln {w : Str} (h : WOk w) : WLn w := ⟨by have := h.len; omega, fun c hc => by have := h.cs c hc; omega⟩
theorem ln_e0 : WLn e0 := ⟨by decide, fun c hc => by cases hc⟩
theorem LnR.badW {hd : Bool} {ws ws' : List Str} (h : LnR hd ws) (ne : ws' ≠ []) (w : ∀ x ∈ ws', WOk x) (hl : ws'.length ≤ 240) (n : noneF hd ws') : BadLn hd (jn ws') := .of (fun x hx => (w x hx).ln) hl (noneL_w ne w n)
theorem LnR.badE {hd : Bool} {ws ws' : List Str} (h : LnR hd ws) (w : ∀ x ∈ ws', x ∈ ws ∨ x = e0) (he : e0 ∈ ws') (hl : ws'.length ≤ 240) : BadLn hd (jn ws') :=
  .of (fun x hx => (w x hx).elim (fun z => (h.ok x z).ln) fun z => by rw [z]; exact ln_e0) hl (noneL_parts (parts_empty (fun x hx => (w x hx).imp (h.ok x) id) he))
/-- a number word with a figure too much ahead -/
theorem spoil_num {n : Int} (hn : n.natAbs ≤ 10 ^ 30) : (neg1 (numZ n) = true → sgnO (("-0" : Str) ++ Txt.slice (numZ n) (some 1) none) = none ∧ (("-0" : Str) ++ Txt.slice (numZ n) (some 1) none) ≠ "or" ∧ WOk (("-0" : Str) ++ Txt.slice (numZ n) (some 1) none)) ∧
    (neg1 (numZ n) = false → sgnO (("0" : Str) ++ numZ n) = none ∧ (("0" : Str) ++ numZ n) ≠ "or" ∧ WOk (("0" : Str) ++ numZ n)) := by
  have numN : ∀ {v : Str} {l : List Nat}, TL.tl v = 48 :: l → l ≠ [] → l.all isDig = true → numO v = none := fun {v l} e ne hd => by
    have hl : 1 < v.length := by
      rw [TL.len_tl, e, List.length_cons]
      have := List.length_pos_iff.mpr ne
      omega
    have e' : v.cps.toList = 48 :: l := e
    unfold numO
    split
    · rfl
    · split
      · rfl
      · rw [if_pos ⟨hl, by rw [e']; rfl⟩]
  have wk := wok_numZ hn
  have dl := numL_dig n.natAbs
  have nn := TL.numL_ne n.natAbs
  constructor
  · intro hneg
    have hlt : n < 0 := by
      rcases Int.lt_or_le n 0 with c | c
      · exact c
      · obtain ⟨m, rfl⟩ : ∃ m : Nat, n = (m : Int) := ⟨n.toNat, by omega⟩
        rw [neg1_iff] at hneg
        have e : TL.tl (numS m) = TL.numL m := numS_tl m
        rw [numZ_nat, e] at hneg
        have hm : 45 ∈ TL.numL m := List.mem_of_mem_take (i := 1) (by rw [hneg]; simp)
        have := TL.numL_digits m 45 hm
        omega
    have e := numZ_neg hlt
    have es : TL.tl (Txt.slice (numZ n) (some 1) none) = TL.numL n.natAbs := by rw [tl_from1, e]; rfl
    have ev : TL.tl (("-0" : Str) ++ Txt.slice (numZ n) (some 1) none) = 45 :: 48 :: TL.numL n.natAbs := by rw [TL.tl_append, es]; rfl
    refine ⟨?_, fun z => ?_, fun z => ?_, fun c hc => ?_, ?_⟩
    · unfold sgnO
      rw [if_pos (neg1_iff.mpr (by rw [ev]; rfl)), numN (by rw [tl_from1, ev]; rfl) nn dl]
    · rw [z] at ev
      cases ev
    · rw [z] at ev
      cases ev
    · have hc : c ∈ TL.tl (("-0" : Str) ++ Txt.slice (numZ n) (some 1) none) := hc
      rw [ev] at hc
      rcases List.mem_cons.mp hc with rfl | hc
      · decide
      rcases List.mem_cons.mp hc with rfl | hc
      · decide
      · have := TL.numL_digits _ c hc
        omega
    · have : (TL.numL n.natAbs).length ≤ 31 := TL.numL_len (by decide) (le31 hn)
      rw [TL.len_tl, ev, List.length_cons, List.length_cons]
      omega
  · intro hneg
    have hge : ¬ n < 0 := fun c => by
      have := neg1_iff.mpr (show (TL.tl (numZ n)).take 1 = [45] by rw [numZ_neg c]; rfl)
      rw [hneg] at this
      cases this
    obtain ⟨m, rfl⟩ : ∃ m : Nat, n = (m : Int) := ⟨n.toNat, by omega⟩
    have e : TL.tl (numS m) = TL.numL m := numS_tl m
    have ev : TL.tl (("0" : Str) ++ numZ (m : Nat)) = 48 :: TL.numL m := by rw [TL.tl_append, numZ_nat, e]; rfl
    refine ⟨?_, fun z => ?_, fun z => ?_, fun c hc => ?_, ?_⟩
    · unfold sgnO
      rw [if_neg (by rw [neg1_iff, ev]; simp), numN ev nn dl]
    · rw [z] at ev
      cases ev
    · rw [z] at ev
      cases ev
    · have hc : c ∈ TL.tl (("0" : Str) ++ numZ (m : Nat)) := hc
      rw [ev] at hc
      rcases List.mem_cons.mp hc with rfl | hc
      · decide
      · have := TL.numL_digits _ c hc
        omega
    · have : (TL.numL m).length ≤ 31 := TL.numL_len (by decide) (le31 (by omega))
      rw [TL.len_tl, ev, List.length_cons]
      omega
abbrev noNum : List Str := ["-0", "1_0", "+1", "-", "1.", "x1", "--1"]
theorem noNum_ok : noNum.all (fun s => (sgnO s).isNone && (!decide (s = "or") && wokB s)) = true := by decide +kernel
theorem noNum_of {s : Str} (h : s ∈ noNum) : sgnO s = none ∧ s ≠ "or" ∧ WOk s := by
  have := List.all_eq_true.mp noNum_ok s h
  rw [Bool.and_eq_true, Bool.and_eq_true, Bool.not_eq_true', decide_eq_false_iff_not] at this
  exact ⟨Option.isNone_iff_eq_none.mp this.1, this.2.1, wok_of this.2.2⟩
theorem lit_words : (["x", "or", "front", "middle", "go", "1", "fin"] : List Str).all wokB = true := by decide +kernel
theorem lit_w {s : Str} (h : s ∈ (["x", "or", "front", "middle", "go", "1", "fin"] : List Str)) : WOk s := wok_of (List.all_eq_true.mp lit_words s h)
theorem LnR.set_bad {hd : Bool} {ws : List Str} (h : LnR hd ws) {i : Nat} {n : Int} {w' : Str} (hi : i < ws.length) (e : ws.getD i e0 = numZ n) (hn : n.natAbs ≤ 10 ^ 30) (hw : sgnO w' = none ∧ w' ≠ "or" ∧ WOk w') : BadLn hd (jn (ws.set i w')) := by
  refine h.badW (fun z => ?_) (fun x hx => ?_) (by rw [List.length_set]; have := h.len; omega) (h.set i w' (numZ n) n ?_ (sgn_numZ (le31 hn)) hw.1 hw.2.1)
  · have := congrArg List.length z
    rw [List.length_set, List.length_nil] at this
    omega
  · rcases List.mem_or_eq_of_mem_set hx with hx | rfl
    · exact h.ok x hx
    · exact hw.2.2
  · rw [← e, List.getD_eq_getElem?_getD, List.getElem?_eq_getElem hi]
    rfl

end
end K35
set_option maxRecDepth 100000
set_option maxHeartbeats 4000000
namespace K35
open PySem PySem.Spec PyProof.Rows L2 L3
local macro_rules | `(tactic| walk_at "s1") => `(tactic| first
  | with_reducible refine r_seq ?_
  | with_reducible refine r_asgN ?_
  | with_reducible refine r_ret ?_
  | with_reducible refine r_next ?_
  | ((with_reducible refine' r_var ?hv ?_); (case hv => exact rfl))
  | with_reducible refine r_c ?_
  | with_reducible refine r_op ?_
  | with_reducible refine r_cons ?_
  | with_reducible refine r_nil ?_
  | with_reducible refine r_plusI ?_
  | with_reducible refine r_I0 ?_
  | with_reducible refine r_test ?_
  | with_reducible refine r_bl ?_
  | with_reducible refine r_ifS ?_
  | with_reducible refine r_cb ?_
  | with_reducible refine r_callS ?_
  | with_reducible refine r_and ?_
  | with_reducible refine r_or ?_
  | with_reducible refine r_not ?_
  | with_reducible refine r_B ?_
  | ((with_reducible refine' r_aug ?hv ?_); (case hv => exact rfl))
  | with_reducible refine r_augS ?_
  | with_reducible refine r_ipI ?_
  | with_reducible refine r_asg ?_
  | with_reducible refine r_sub ?_
  | with_reducible refine r_brk ?_
  | with_reducible refine r_isN1 ?_
  | with_reducible refine r_notN1 ?_
  | with_reducible refine r_intI ?_
  | with_reducible refine r_abs ?_
  | with_reducible refine r_min ?_
  | with_reducible refine r_max ?_
  | ((with_reducible refine' r_mod ?hz ?_); (case hz => omega))
  | ((with_reducible refine' r_pow ?hz ?_); (case hz => exact ⟨by decide, by decide, by decide⟩))
  | ((with_reducible refine' r_rg1 ?hz ?_); (case hz => omega))
  | ((with_reducible refine' r_rg2 ?hz ?_); (case hz => omega))
  | ((with_reducible refine' r_newL ?hz ?_); (case hz => exact Nat.le_of_ble_eq_true rfl))
  | ((with_reducible refine' r_newT ?hz ?_); (case hz => exact Nat.le_of_ble_eq_true rfl))
  | with_reducible refine r_for ?_
  | with_reducible refine r_lc ?_
  | with_reducible refine r_iR1 ?_
  | with_reducible refine r_iR2 ?_
  | with_reducible refine r_iL ?_
  | with_reducible refine r_iT ?_
  | with_reducible refine r_gname ?_
  | with_reducible refine r_gcons ?_
  | with_reducible refine r_gnil ?_
  | with_reducible refine r_yes ?_
  | with_reducible refine r_mkO ?_
  | with_reducible refine r_cont ?_
  | with_reducible refine r_drop ?_
  | with_reducible refine r_retN ?_
  | with_reducible refine r_ifC ?_
  | with_reducible refine r_ifI ?_
  | with_reducible refine r_if ?_
  | with_reducible refine r_un ?_
  | with_reducible refine r_neg ?_
  | with_reducible refine r_andV ?_
  | with_reducible refine r_orV ?_
  | with_reducible refine r_notV ?_
  | with_reducible refine r_tup ?_
  | with_reducible refine r_lst ?_
  | with_reducible refine r_bm ?_
  | with_reducible refine r_bm0 ?_
  | with_reducible refine r_sl ?_
  | with_reducible refine r_chain ?_
  | with_reducible refine r_listDn ?_
  | with_reducible refine r_listRg2 ?_
  | with_reducible refine r_listRg1 ?_
  | with_reducible refine r_revL ?_
  | with_reducible refine r_noPart ?_
  | with_reducible refine r_meth ?_
  | with_reducible refine r_methE ?_
  | with_reducible refine r_js ?_
  | with_reducible refine r_jsC ?_
  | with_reducible refine r_jsN ?_
  | with_reducible refine r_fmt ?_
  | with_reducible refine r_fld ?_
  | with_reducible refine r_sfld ?_
  | with_reducible refine r_make ?_
  | with_reducible refine r_m1 ?_
  | with_reducible refine r_m1s ?_
  | with_reducible refine r_iS ?_
  | with_reducible refine r_iE ?_
  | with_reducible refine r_si ?_
  | with_reducible refine r_strS ?_
  | with_reducible refine r_dgt ?_
  | with_reducible refine r_din ?_
  | with_reducible refine r_dnin ?_
  | with_reducible refine r_dput ?_
  | with_reducible refine r_dnew ?_
  | with_reducible refine r_disp1 ?_
  | with_reducible refine r_lenSet ?_
  | with_reducible refine r_get2 ?_
  | with_reducible refine r_get1 ?_
  | with_reducible refine r_daug ?_
  | with_reducible refine r_iR3 ?_
  | with_reducible refine r_prC ?_
  | with_reducible refine r_prN ?_
  | with_reducible refine r_part ?_
  | with_reducible refine r_int ?_
  | ((with_reducible refine' r_sameS ?hs ?_); (case hs => exact rfl))
  | ((with_reducible refine' r_otherS ?hs ?_); (case hs => exact rfl))
  | with_reducible refine ite_t ?_
  | with_reducible refine ite_f ?_
  | with_reducible refine ite_nt ?_
  | with_reducible refine ite_nf ?_)
local macro_rules | `(tactic| walk_at "st") => `(tactic| repeat (walk_at "s1"))
local macro_rules | `(tactic| walk_at "su") => `(tactic| first
  | with_reducible refine r_seq ?_
  | with_reducible refine r_asgN ?_
  | with_reducible refine r_ret ?_
  | with_reducible refine r_next ?_
  | ((with_reducible refine' r_var ?hv ?_); (case hv => exact rfl))
  | with_reducible refine r_c ?_
  | with_reducible refine r_op ?_
  | with_reducible refine r_cons ?_
  | with_reducible refine r_nil ?_
  | with_reducible refine r_plusI ?_
  | with_reducible refine r_I0 ?_
  | with_reducible refine r_test ?_
  | with_reducible refine r_bl ?_
  | with_reducible refine r_cb ?_
  | with_reducible refine r_callS ?_
  | with_reducible refine r_and ?_
  | with_reducible refine r_or ?_
  | with_reducible refine r_not ?_
  | with_reducible refine r_B ?_
  | ((with_reducible refine' r_aug ?hv ?_); (case hv => exact rfl))
  | with_reducible refine r_augS ?_
  | with_reducible refine r_ipI ?_
  | with_reducible refine r_asg ?_
  | with_reducible refine r_sub ?_
  | with_reducible refine r_brk ?_
  | with_reducible refine r_isN1 ?_
  | with_reducible refine r_notN1 ?_
  | with_reducible refine r_intI ?_
  | with_reducible refine r_abs ?_
  | with_reducible refine r_min ?_
  | with_reducible refine r_max ?_
  | ((with_reducible refine' r_mod ?hz ?_); (case hz => omega))
  | ((with_reducible refine' r_pow ?hz ?_); (case hz => exact ⟨by decide, by decide, by decide⟩))
  | ((with_reducible refine' r_rg1 ?hz ?_); (case hz => omega))
  | ((with_reducible refine' r_rg2 ?hz ?_); (case hz => omega))
  | ((with_reducible refine' r_newL ?hz ?_); (case hz => exact Nat.le_of_ble_eq_true rfl))
  | ((with_reducible refine' r_newT ?hz ?_); (case hz => exact Nat.le_of_ble_eq_true rfl))
  | with_reducible refine r_for ?_
  | with_reducible refine r_lc ?_
  | with_reducible refine r_iR1 ?_
  | with_reducible refine r_iR2 ?_
  | with_reducible refine r_iL ?_
  | with_reducible refine r_iT ?_
  | with_reducible refine r_gname ?_
  | with_reducible refine r_gcons ?_
  | with_reducible refine r_gnil ?_
  | with_reducible refine r_yes ?_
  | with_reducible refine r_mkO ?_
  | with_reducible refine r_cont ?_
  | with_reducible refine r_drop ?_
  | with_reducible refine r_retN ?_
  | with_reducible refine r_ifC ?_
  | with_reducible refine r_ifI ?_
  | with_reducible refine r_if ?_
  | with_reducible refine r_un ?_
  | with_reducible refine r_neg ?_
  | with_reducible refine r_andV ?_
  | with_reducible refine r_orV ?_
  | with_reducible refine r_notV ?_
  | with_reducible refine r_tup ?_
  | with_reducible refine r_lst ?_
  | with_reducible refine r_bm ?_
  | with_reducible refine r_bm0 ?_
  | with_reducible refine r_sl ?_
  | with_reducible refine r_chain ?_
  | with_reducible refine r_listDn ?_
  | with_reducible refine r_listRg2 ?_
  | with_reducible refine r_listRg1 ?_
  | with_reducible refine r_revL ?_
  | with_reducible refine r_noPart ?_
  | with_reducible refine r_meth ?_
  | with_reducible refine r_methE ?_
  | with_reducible refine r_js ?_
  | with_reducible refine r_jsC ?_
  | with_reducible refine r_jsN ?_
  | with_reducible refine r_fmt ?_
  | with_reducible refine r_fld ?_
  | with_reducible refine r_sfld ?_
  | with_reducible refine r_make ?_
  | with_reducible refine r_m1 ?_
  | with_reducible refine r_m1s ?_
  | with_reducible refine r_iS ?_
  | with_reducible refine r_iE ?_
  | with_reducible refine r_si ?_
  | with_reducible refine r_strS ?_
  | with_reducible refine r_dgt ?_
  | with_reducible refine r_din ?_
  | with_reducible refine r_dnin ?_
  | with_reducible refine r_dput ?_
  | with_reducible refine r_dnew ?_
  | with_reducible refine r_disp1 ?_
  | with_reducible refine r_lenSet ?_
  | with_reducible refine r_get2 ?_
  | with_reducible refine r_get1 ?_
  | with_reducible refine r_daug ?_
  | with_reducible refine r_iR3 ?_
  | with_reducible refine r_prC ?_
  | with_reducible refine r_prN ?_
  | with_reducible refine r_part ?_
  | with_reducible refine r_int ?_
  | ((with_reducible refine' r_sameS ?hs ?_); (case hs => exact rfl))
  | ((with_reducible refine' r_otherS ?hs ?_); (case hs => exact rfl))
  | with_reducible refine ite_t ?_
  | with_reducible refine ite_f ?_
  | with_reducible refine ite_nt ?_
  | with_reducible refine ite_nf ?_)
local macro_rules | `(tactic| walk_at "sv") => `(tactic| repeat (walk_at "su"))

section
variable {P : Program} {w : World} {K : PySem.W.Frag} {mg : Str → Option Value} {base : Heap}

/-! ### number words; spoilt lines -/
def numsAt (ws : List Str) (n : Nat) : List Nat := ((List.range n).map (· + 1)).filter fun i => numB (ws.getD i e0)
def spNumW (K : PySem.W.Frag) : Sp := fun vs H Q _ => ∃ (p : Addr) (ws : List Str), vs = [.ref p] ∧ H p = some (.lst (ws.map V.str)) ∧ (∀ w ∈ ws, w.length ≤ 1000) ∧ ws.length ≤ 1000 ∧ ∀ q H', H q = none → Ext H H' → H' q = some (.lst ((numsAt ws (ws.length - 1)).map fun n : Nat => V.int (n : Nat))) → Q (.ref q) H'
theorem figs : ∀ (c : Nat), decide (c ∈ (Str.ofString "0123456789").cps.toList) = isDig c := fun c => by
  rw [Bool.eq_iff_iff, decide_eq_true_iff]
  exact fig_mem
theorem sc__law_number_words : FnScope ["words", "found", "at", "word", "sign"] ["words"] (defScope s__law_number_words) := ⟨rfl, rfl, rfl, by decide +kernel, rfl, by decide +kernel, by decide +kernel⟩
theorem ok__law_number_words (T : Txt w K mg) : CalG P w K mg base 1 "_law_number_words" ["words"] (spNumW K) := by
  refine calG_of T.g__law_number_words T.d__law_number_words sc__law_number_words (fun _ _ _ _ _ _ _ us hl => match us, hl with | [_], _ => rfl) (fun vs H Q E h => by obtain ⟨_, _, rfl, _⟩ := h; rfl) (fun cdv A outer s H vs Q E hr h => ?_)
  have nd := sc__law_number_words.nd
  have hu := hu64 hr
  obtain ⟨p, ws, rfl, hp, hw, hl, k⟩ := h
  refine ⟨_, (pss_cons (ps_set (i := 1) nd rfl (Or.inl rfl) (pe_lst pa_nil))
        (pss_cons (ps_for (passes_of rfl) rfl (pi_range2 (by rfl) T.f_range (pa_cons pe_int (pa_cons (pe_callB (lenK (K := K)) (by rfl) T.f_len boot_len (pa_cons (pv 0) pa_nil)) pa_nil))) (pg_name (i := 2) nd rfl (Or.inl rfl)) (pss_cons (ps_set (i := 3) nd rfl (Or.inl rfl) (pe_ifExp (pt_cmpR (sameK (K := K) hu) (pe_slice C8.sl_txt (pe_ix (ixK (K := K)) (pv 0) (pv 2) (fun _ _ => rfl)) po_none (po_some pe_int)) pe_str (nomark _)) (pe_slice C8.sl_txt (pe_ix (ixK (K := K)) (pv 0) (pv 2) (fun _ _ => rfl)) (po_some pe_int) po_none) (pe_ix (ixK (K := K)) (pv 0) (pv 2) (fun _ _ => rfl))))
        (pss_one (ps_if (PW.pt (pw_and (pt_cmpR (otherK (K := K) hu) (pv 3) pe_str (nomark _)) (pw_and1 (pt_val (pe_callB (allK (K := K) rfl) (by rfl) T.f_all (by decide +kernel) (pa_cons (pe_lc (own := [("sign", 4)]) rfl nd (pi_str (pv 3)) (blkOk_by (N := ["words", "found", "at", "word", "sign"]) (sc := defScope s__law_number_words) (by decide +kernel)) (fun _ _ _ _ _ => (pg_name (i := 4) nd rfl (Or.inl rfl))) (fun _ _ _ _ _ => pts_nil) (fun _ _ _ _ _ => (pe_cmpR op_inS (pv 4) pe_str (by rfl)))) pa_nil)))))) (pss_one (ps_expr (peBM (K := K) (pe_bm PySem.F.plainAttrs_list PySem.F.slot_list_append PySem.F.type_list_append mt_append (pv 1) (pa_cons (pv 2) pa_nil))))) pss_nil))))
        (pss_one (ps_ret (pv 1))))), ?_⟩
  walk_at "st"
  intro D H1 hD e1 h1
  walk_at "st"
  refine r_lenL (sqL (e1 _ _ hp)) (n := (ws.length : Nat)) (by rw [List.length_map]) ?_
  walk_at "st"
  refine forW_range (fun i σ' H' => ∃ v2 v3 : Option V, σ' = [some (.ref p), some (.ref D), v2, v3, none] ∧ Ext H H' ∧ H' D = some (.lst ((numsAt ws i).map fun n : Nat => V.int (n : Nat)))) ⟨none, none, rfl, e1, h1⟩ ?_ ?_
  · rintro i σ' H2 hi ⟨v2, v3, rfl, e2, h2⟩
    have ii : i + 1 < ws.length := by omega
    have lnum : (numsAt ws i).length ≤ i := by
      have := List.length_filter_le (fun i => numB (ws.getD i e0)) ((List.range i).map (· + 1))
      rw [List.length_map, List.length_range] at this
      exact this
    have stp : numsAt ws (i + 1) = numsAt ws i ++ (if numB (ws.getD (i + 1) e0) = true then [i + 1] else []) := by
      unfold numsAt
      rw [List.range_succ, List.map_append, List.filter_append]
      congr 1
      show List.filter _ [i + 1] = _
      rw [List.filter_cons]
      split <;> simp
    have hx := hw _ (getD_memS ii)
    obtain ⟨wd, hwd⟩ : ∃ wd, ws.getD (i + 1) (Str.ofString "") = wd := ⟨_, rfl⟩
    have ewd : (ws.map V.str)[i + 1]? = some (.str wd) := by rw [← hwd]; exact strs_at ii
    rw [hwd] at hx
    rw [show ws.getD (i + 1) e0 = wd from hwd] at stp
    rw [show (1 : Int) + (i : Int) = ((i + 1 : Nat) : Int) by omega]
    walk_at "st"
    refine r_atL (sqL (e2 _ _ hp)) (atI_nat ewd) ?_
    walk_at "st"
    refine r_slX (by omega) ?_
    walk_at "st"
    refine ite_joinE (fun v H' => v = .str (if neg1 wd = true then Txt.slice wd (some 1) none else wd) ∧ H' = H2) (fun Q' hq => ?_) ?_
    · by_cases c : neg1 wd = true
      · refine ite_d (fun _ => ?_) (fun n => absurd (congrArg V.str (of_decide_eq_true c)) n)
        walk_at "st"
        refine r_atL (sqL (e2 _ _ hp)) (atI_nat ewd) ?_
        walk_at "st"
        refine r_slX (by omega) ?_
        exact hq _ _ ⟨by rw [if_pos c], rfl⟩
      · refine ite_d (fun z => absurd (decide_eq_true (V.str.inj z)) c) (fun _ => ?_)
        walk_at "st"
        refine r_atL (sqL (e2 _ _ hp)) (atI_nat ewd) ?_
        exact hq _ _ ⟨by rw [if_neg c], rfl⟩
    rintro v H2' ⟨rfl, rfl⟩
    have hv : (if neg1 wd = true then Txt.slice wd (some 1) none else wd).length ≤ 1000 := by
      split
      · exact Nat.le_trans (Txt.slice_le _ _ _) hx
      · exact hx
    have en : numB wd = ((!decide ((if neg1 wd = true then Txt.slice wd (some 1) none else wd) = e0)) && (if neg1 wd = true then Txt.slice wd (some 1) none else wd).cps.toList.all isDig) := rfl
    generalize (if neg1 wd = true then Txt.slice wd (some 1) none else wd) = v at hv en
    have hv' : v.cps.size ≤ 1000 := hv
    walk_at "sv"
    refine r_ifJ (numB wd) (fun P' hP => ?_) (fun H3 e3 => ?_)
    · walk_at "st"
      by_cases c : v = e0
      · rw [decide_eq_true (show V.str v = V.str "" by rw [c])]
        walk_at "st"
        have := hP H2' .rfl
        rw [en, decide_eq_true c] at this
        exact this
      · rw [decide_eq_false (show ¬ V.str v = V.str "" from fun z => c (V.str.inj z))]
        walk_at "st"
        intro D2 hD2
        refine lcW_str (LcP H2' D2 fun j => .bl (isDig (v.cps.toList.getD j 0))) (.start hD2) (fun j c' H' hc q => ?_) (fun H' q => ?_)
        · walk_at "st"
          refine r_lcW rfl ?_
          walk_at "st"
          refine r_inC ?_
          have hj : j < v.cps.size := by have := (List.getElem?_eq_some_iff.mp hc).1; rwa [Array.length_toList] at this
          have ec : v.cps.toList.getD j 0 = c' := by rw [List.getD_eq_getElem?_getD, hc]; rfl
          refine q.push hD2 (by omega) .rfl ?_
          rw [ec, figs]
        · have e : (List.range v.cps.size).map (fun j => V.bl (isDig (v.cps.toList.getD j 0))) = (v.cps.toList.map isDig).map V.bl := by
            apply List.ext_getElem?
            intro j
            rw [List.getElem?_map, List.getElem?_map, List.getElem?_map]
            by_cases c : j < v.cps.size
            · rw [List.getElem?_range c, List.getElem?_eq_getElem (by rw [Array.length_toList]; exact c)]
              show some (V.bl (isDig (v.cps.toList.getD j 0))) = _
              rw [List.getD_eq_getElem?_getD, List.getElem?_eq_getElem (by rw [Array.length_toList]; exact c)]
              rfl
            · rw [List.getElem?_eq_none (by rw [List.length_range]; omega), List.getElem?_eq_none (by rw [Array.length_toList]; omega)]
              rfl
          have d2 := q.d
          rw [e] at d2
          walk_at "st"
          refine r_all (sqL d2) ?_
          walk_at "st"
          have := hP H' q.e
          rw [en, decide_eq_false c] at this
          rw [List.all_map]
          exact this
    · have h3 := e3 _ _ h2
      rw [stp]
      cases hb : numB wd with
      | true =>
        refine ite_t ?_
        walk_at "st"
        refine ⟨.inl ⟨rfl, _, sqL h3⟩, ?_⟩
        walk_at "st"
        refine r_app h3 (by rw [List.length_map]; omega) (fun H4 h4 n4 => ⟨_, _, rfl, mut_ext (e2.trans e3) hD n4, ?_⟩)
        rw [h4, if_pos rfl, List.map_append]
        rfl
      | false =>
        refine ite_f ?_
        walk_at "st"
        refine ⟨_, _, rfl, e2.trans e3, ?_⟩
        rw [h3, if_neg Bool.false_ne_true, List.append_nil]
  · rintro σ' H2 ⟨v2, v3, rfl, e2, h2⟩
    walk_at "st"
    rw [show (((ws.length : Nat) : Int) - 1).toNat = ws.length - 1 by omega] at h2
    exact k D H2 hD e2 h2

theorem nums_mem {ws : List Str} {n i : Nat} (h : i ∈ numsAt ws n) : 1 ≤ i ∧ i ≤ n ∧ numB (ws.getD i e0) = true := by
  have := List.mem_filter.mp h
  obtain ⟨j, hj, rfl⟩ := List.mem_map.mp this.1
  have := List.mem_range.mp hj
  exact ⟨by omega, by omega, (List.mem_filter.mp h).2⟩
theorem jn_x {ws : List Str} (ne : ws ≠ []) {y z : Str} (hz : z = sp1 ++ y) : jn ws ++ z = jn (ws ++ [y]) := by
  rw [jn_app ne (List.cons_ne_nil _ _), jn_one, hz]
theorem app_e0 (x : Str) : x ++ e0 = x := TL.ext_tl (by rw [TL.tl_append]; exact List.append_nil _)
theorem WLn.join {ws : List Str} (w : ∀ x ∈ ws, WLn x) (hl : ws.length ≤ 240) : (ws.map (·.length)).sum + ws.length * sp1.length ≤ 16777216 := join_le (m := 60) (n := 240) (k := 1) (fun x hx => (w x hx).1) hl sp1_len (by decide)
def spSpL (K : PySem.W.Frag) : Sp := fun vs H Q _ => ∃ (p : Addr) (hd : Bool) (ws : List Str), vs = [.ref p, .str (jn ws)] ∧ Src H p ∧ LnR hd ws ∧ ∀ x H', BadLn hd x → Src H' p → But p H H' → Q (.str x) H'
theorem sc__law_spoilt_line : FnScope ["source", "line", "words", "sort", "at", "numbers", "spot", "word"] ["source", "line"] (defScope s__law_spoilt_line) := ⟨rfl, rfl, rfl, by decide +kernel, rfl, by decide +kernel, by decide +kernel⟩
theorem ok__law_spoilt_line (T : Txt w K mg) : CalG P w K mg base 3 "_law_spoilt_line" ["source", "line"] (spSpL K) := by
  have c__law_pick := ok_law_pick (P := P) (base := base) T
  have c__law_number_words := ok__law_number_words (P := P) (base := base) T
  refine calG_of T.g__law_spoilt_line T.d__law_spoilt_line sc__law_spoilt_line (fun _ _ _ _ _ _ _ us hl => match us, hl with | [_, _], _ => rfl) (fun vs H Q E h => by obtain ⟨_, _, _, rfl, _⟩ := h; rfl) (fun cdv A outer s H vs Q E hr h => ?_)
  have nd := sc__law_spoilt_line.nd
  have hu := hu64 hr
  obtain ⟨p, hd, ws, rfl, sp, L, k⟩ := h
  have l2 := L.l2
  have ll := L.len
  have lj : (jn ws).length ≤ 9430 := jn_w L.ok ll
  have lx : (" x" : Str).length = 2 := by decide +kernel
  have lsp : (" " : Str).length = 1 := by decide +kernel
  refine ⟨_, (pss_cons (ps_set (i := 2) nd rfl (Or.inl rfl) (pe_splitK (pv 1) pe_str))
        (pss_cons (ps_set (i := 3) nd rfl (Or.inl rfl) (pe_cal c__law_pick hr (by omega) (fun σ => L2N.passAt (L2N.takes_of rfl rfl rfl rfl) σ) (pa_cons (pv 0) (pa_cons pe_int pa_nil))))
        (pss_cons (ps_set (i := 4) nd rfl (Or.inl rfl) (pe_cal c__law_pick hr (by omega) (fun σ => L2N.passAt (L2N.takes_of rfl rfl rfl rfl) σ) (pa_cons (pv 0) (pa_cons (pe_callB (lenK (K := K)) (by rfl) T.f_len boot_len (pa_cons (pv 2) pa_nil)) pa_nil))))
        (pss_cons (ps_set (i := 5) nd rfl (Or.inl rfl) (pe_cal c__law_number_words hr (by omega) (fun σ => L2N.passAt (L2N.takes_of rfl rfl rfl rfl) σ) (pa_cons (pv 2) pa_nil)))
        (pss_cons (ps_set (i := 6) nd rfl (Or.inl rfl) (pe_ix (ixK (K := K)) (pv 5) (pe_cal c__law_pick hr (by omega) (fun σ => L2N.passAt (L2N.takes_of rfl rfl rfl rfl) σ) (pa_cons (pv 0) (pa_cons (pe_callB (lenK (K := K)) (by rfl) T.f_len boot_len (pa_cons (pv 5) pa_nil)) pa_nil))) (fun _ _ => rfl)))
        (pss_cons (ps_if (pt_cmpR (sameK (K := K) hu) (pv 3) pe_int (nomark _)) (pss_one (ps_ret (pe_op (plusK (K := K)) (pv 1) pe_str))) pss_nil)
        (pss_cons (ps_if (pt_cmpR (sameK (K := K) hu) (pv 3) pe_int (nomark _)) (pss_one (ps_ret (pe_joinK (K := K) pe_str (pe_op (plusK (K := K)) (pe_op (plusK (K := K)) (pe_slice (slK (K := K)) (pv 2) po_none (po_some (pv 4))) (pe_lst (pa_cons pe_str pa_nil))) (pe_slice (slK (K := K)) (pv 2) (po_some (pv 4)) po_none))))) pss_nil)
        (pss_cons (ps_if (pt_cmpR (sameK (K := K) hu) (pv 3) pe_int (nomark _)) (pss_one (ps_ret (pe_op (plusK (K := K)) (pv 1) pe_str))) pss_nil)
        (pss_cons (ps_if (pt_cmpR (sameK (K := K) hu) (pv 3) pe_int (nomark _)) (pss_cons (ps_set (i := 7) nd rfl (Or.inl rfl) (pe_ix (ixK (K := K)) (pv 2) (pv 6) (fun _ _ => rfl)))
        (pss_cons (ps_asg (pe_ifExp (pt_cmpR (sameK (K := K) hu) (pe_slice C8.sl_txt (pv 7) po_none (po_some pe_int)) pe_str (nomark _)) (pe_op (plusK (K := K)) pe_str (pe_slice C8.sl_txt (pv 7) (po_some pe_int) po_none)) (pe_op (plusK (K := K)) pe_str (pv 7))) (pg_sub (pv 2) (pv 6) set_list))
        (pss_one (ps_ret (pe_joinK (K := K) pe_str (pv 2)))))) pss_nil)
        (pss_cons (ps_if (pt_cmpR (sameK (K := K) hu) (pv 3) pe_int (nomark _)) (pss_cons (ps_asg (pe_ix (ixK (K := K)) (pe_lst (pa_cons pe_str (pa_cons pe_str (pa_cons pe_str (pa_cons pe_str (pa_cons pe_str (pa_cons pe_str (pa_cons pe_str pa_nil)))))))) (pe_cal c__law_pick hr (by omega) (fun σ => L2N.passAt (L2N.takes_of rfl rfl rfl rfl) σ) (pa_cons (pv 0) (pa_cons pe_int pa_nil))) (fun _ _ => rfl)) (pg_sub (pv 2) (pv 6) set_list))
        (pss_one (ps_ret (pe_joinK (K := K) pe_str (pv 2))))) pss_nil)
        (pss_cons (ps_if (pt_cmpR (sameK (K := K) hu) (pv 3) pe_int (nomark _)) (pss_one (ps_ret (pe_joinK (K := K) pe_str (pe_op (plusK (K := K)) (pe_lst (pa_cons pe_str pa_nil)) (pe_slice (slK (K := K)) (pv 2) (po_some pe_int) po_none))))) pss_nil)
        (pss_cons (ps_if (pt_cmpR (sameK (K := K) hu) (pv 3) pe_int (nomark _)) (pss_one (ps_ret (pe_joinK (K := K) pe_str (pe_op (plusK (K := K)) (pv 2) (pe_lst (pa_cons pe_str pa_nil)))))) pss_nil)
        (pss_cons (ps_if (pt_cmpR (sameK (K := K) hu) (pv 3) pe_int (nomark _)) (pss_one (ps_ret pe_str)) pss_nil)
        (pss_one (ps_ret (pe_joinK (K := K) pe_str (pe_op (plusK (K := K)) (pv 2) (pe_lst (pa_cons (pe_ifExp (pt_cmpR (inK (K := K)) (pe_ix (ixK (K := K)) (pv 2) (pe_op op_sub (pe_callB (lenK (K := K)) (by rfl) T.f_len boot_len (pa_cons (pv 2) pa_nil)) pe_int) (fun _ _ => rfl)) (pe_tup (pa_cons pe_str (pa_cons pe_str pa_nil))) (by rfl)) pe_str pe_str) (pa_cons pe_str (pa_cons pe_str (pa_cons pe_str pa_nil)))))))))))))))))))))), ?_⟩
  walk_at "st"
  refine r_split rfl (by omega) (fun q H1 hq e1 h1 => ?_)
  rw [show (Str.ofString " ") = sp1 from rfl, split_any L.ne fun x hx => wok_no32 (L.ok x hx)] at h1
  have s1 := sp.ext e1
  have qp : q ≠ p := (src_ne sp hq).symm
  have qH := hq
  walk_at "st"
  refine ⟨p, 9, rfl, s1, by decide, by decide, fun so H2 so0 so9 s2 n2 => ?_⟩
  have h2 := stay n2 qp h1
  walk_at "st"
  refine r_lenL (sqL h2) (n := (ws.length : Nat)) (by rw [List.length_map]) ?_
  walk_at "st"
  refine ⟨p, (ws.length : Nat), rfl, s2, by omega, by omega, fun r3 H3 r30 r3m s3 n3 => ?_⟩
  obtain ⟨at_, rfl, hat⟩ := npick r30 r3m
  have h3 := stay n3 qp h2
  walk_at "st"
  refine ⟨q, ws, rfl, h3, fun w hw => by have := (L.ok w hw).len; omega, by omega, fun nq H4 hnq e4 h4 => ?_⟩
  have s4 := s3.ext e4
  have q4 := e4 _ _ h3
  have np : nq ≠ p := (src_ne s3 hnq).symm
  have nl : numsAt ws (ws.length - 1) ≠ [] := fun z => by
    have : 1 ∈ numsAt ws (ws.length - 1) := List.mem_filter.mpr ⟨List.mem_map.mpr ⟨0, List.mem_range.mpr (by omega), rfl⟩, L.num1⟩
    rw [z] at this
    cases this
  have lnum : (numsAt ws (ws.length - 1)).length ≤ ws.length := by
    have := List.length_filter_le (fun i => numB (ws.getD i e0)) ((List.range (ws.length - 1)).map (· + 1))
    rw [List.length_map, List.length_range] at this
    exact Nat.le_trans this (Nat.sub_le _ _)
  have l0 := List.length_pos_iff.mpr nl
  walk_at "st"
  refine r_lenL (sqL h4) (n := ((numsAt ws (ws.length - 1)).length : Nat)) (by rw [List.length_map]) ?_
  walk_at "st"
  refine ⟨p, ((numsAt ws (ws.length - 1)).length : Nat), rfl, s4, by omega, by omega, fun r5 H5 r50 r5m s5 n5 => ?_⟩
  obtain ⟨z, rfl, hz⟩ := npick r50 r5m
  have q5 := stay n5 qp q4
  obtain ⟨spot, esp⟩ : ∃ spot, (numsAt ws (ws.length - 1))[z] = spot := ⟨_, rfl⟩
  have hsp := nums_mem (show spot ∈ numsAt ws (ws.length - 1) from by rw [← esp]; exact List.getElem_mem hz)
  refine r_atL (sqL (stay n5 np h4)) (atI_nat (v := .int (spot : Nat)) (by rw [List.getElem?_map, List.getElem?_eq_getElem hz, esp]; rfl)) ?_
  have b5 : But p H H5 := (((ext_but e1).trans (.of n2)).trans (.of n3)).ext e4 |>.trans (.of n5)
  have spl : spot < ws.length := by omega
  obtain ⟨n, en, hn⟩ := L.nums _ (getD_memS spl) hsp.2.2
  have en : ws.getD spot e0 = numZ n := en
  clear hsp h4 np nl lnum l0 hz esp r50 r5m
  have qH0 : H q = none := qH
  walk_at "st"
  refine ite_d (fun c => ?_) (fun c0 => ?_)
  · walk_at "st"
    refine r_plusS (i := jn ws) (j := (" x" : Str)) (by rw [lx]; omega) ?_
    rw [jn_x L.ne (y := ("x" : Str)) (by decide +kernel)]
    refine k _ H5 (L.badW (by simp) (fun x hx => ?_) (by rw [List.length_append]; show _ + 1 ≤ _; omega) L.x) s5 b5
    rcases List.mem_append.mp hx with hx | hx
    · exact L.ok x hx
    · rw [List.mem_singleton.mp hx]; exact lit_w (by simp)
  walk_at "st"
  refine ite_d (fun c => ?_) (fun c1 => ?_)
  · walk_at "st"
    refine r_slL (sqL q5) (fun a H6 ha e6 h6 => ?_)
    rw [cut_to, ← List.map_take] at h6
    walk_at "st"
    intro b H7 hb e7 h7
    have h7 : H7 b = some (.lst ([e0].map V.str)) := h7
    refine r_catL (e7 _ _ h6) h7 (by rw [List.length_map, List.length_map, List.length_take]; show _ + 1 ≤ _; omega) (fun c' H8 hc e8 h8 => ?_)
    walk_at "st"
    refine r_slL (sqL (e8 _ _ (e7 _ _ (e6 _ _ q5)))) (fun d H9 hd' e9 h9 => ?_)
    rw [cut_from, ← List.map_drop] at h9
    refine r_catL (e9 _ _ h8) h9 (by rw [List.length_append, List.length_map, List.length_map, List.length_map, List.length_take, List.length_drop]; show _ + 1 + _ ≤ _; omega) (fun f H10 hf e10 h10 => ?_)
    have h10 : H10 f = some (.lst ((ws.take at_ ++ [e0] ++ ws.drop at_).map V.str)) := by rw [h10, List.map_append, List.map_append]
    have mem : ∀ x ∈ ws.take at_ ++ [e0] ++ ws.drop at_, x ∈ ws ∨ x = e0 := fun x hx => by
      rcases List.mem_append.mp hx with hx | hx
      · rcases List.mem_append.mp hx with hx | hx
        · exact .inl (List.mem_of_mem_take hx)
        · exact .inr (List.mem_singleton.mp hx)
      · exact .inl (List.mem_of_mem_drop hx)
    have len : (ws.take at_ ++ [e0] ++ ws.drop at_).length ≤ 240 := by rw [List.length_append, List.length_append, List.length_take, List.length_drop]; show _ + 1 + _ ≤ _; omega
    walk_at "st"
    refine r_join (sqL h10) (WLn.join (fun x hx => (mem x hx).elim (fun z => (L.ok x z).ln) fun z => by rw [z]; exact ln_e0) len) ?_
    exact k _ H10 (L.badE mem (by simp) len) ((((s5.ext e6).ext e7).ext e8).ext e9 |>.ext e10) ((((b5.ext e6).ext e7).ext e8).ext e9 |>.ext e10)
  walk_at "st"
  refine ite_d (fun c => ?_) (fun c2 => ?_)
  · walk_at "st"
    refine r_plusS (i := jn ws) (j := (" " : Str)) (by rw [lsp]; omega) ?_
    rw [jn_x L.ne (y := e0) (z := (" " : Str)) (app_e0 _).symm]
    refine k _ H5 (L.badE (fun x hx => ?_) (by simp) (by rw [List.length_append]; show _ + 1 ≤ _; omega)) s5 b5
    rcases List.mem_append.mp hx with hx | hx
    · exact .inl hx
    · exact .inr (List.mem_singleton.mp hx)
  walk_at "st"
  refine ite_d (fun c => ?_) (fun c3 => ?_)
  · walk_at "st"
    have wl := (L.ok _ (getD_memS spl)).len
    refine r_atL (sqL q5) (atI_nat (strs_at spl)) ?_
    rw [show ws.getD spot (Str.ofString "") = numZ n from en]
    have wl : (numZ n).length ≤ 40 := by rw [← en]; exact wl
    walk_at "st"
    refine r_slX (by omega) ?_
    walk_at "st"
    obtain ⟨sn1, sn2⟩ := spoil_num hn
    refine ite_joinE (fun v H' => ∃ w' : Str, v = .str w' ∧ (sgnO w' = none ∧ w' ≠ "or" ∧ WOk w') ∧ H' = H5) (fun Q' hq => ?_) ?_
    · cases c : neg1 (numZ n) with
      | true =>
        refine ite_d (fun _ => ?_) (fun nn => absurd (congrArg V.str (of_decide_eq_true c)) nn)
        walk_at "st"
        refine r_slX (by omega) ?_
        have := Txt.slice_le (numZ n) (some 1) none
        refine r_plusS (by show 2 + _ ≤ _; omega) ?_
        exact hq _ _ ⟨_, rfl, sn1 c, rfl⟩
      | false =>
        refine ite_d (fun z => absurd (decide_eq_true (V.str.inj z)) (by rw [show decide (Txt.slice (numZ n) none (some 1) = ("-" : Str)) = false from c]; exact Bool.noConfusion)) (fun _ => ?_)
        walk_at "st"
        refine r_plusS (by show 1 + _ ≤ _; omega) ?_
        exact hq _ _ ⟨_, rfl, sn2 c, rfl⟩
    rintro v H5' ⟨w', rfl, hw', rfl⟩
    walk_at "st"
    refine r_setL (j := spot) q5 rfl (by rw [List.length_map]; exact spl) (fun H6 h6 n6 => ?_)
    rw [← List.map_set] at h6
    have bad := L.set_bad spl en hn hw'
    walk_at "st"
    refine r_join (sqL h6) (WLn.join (fun x hx => ?_) (by rw [List.length_set]; omega)) ?_
    · rcases List.mem_or_eq_of_mem_set hx with hx | rfl
      · exact (L.ok x hx).ln
      · exact hw'.2.2.ln
    exact k _ H6 bad (s5.stay (.of n6) qp.symm) (b5.mut qH0 n6)
  walk_at "st"
  refine ite_d (fun c => ?_) (fun c4 => ?_)
  · walk_at "st"
    intro b H6 hb e6 h6
    walk_at "st"
    refine ⟨p, 7, rfl, s5.ext e6, by decide, by decide, fun r7 H7 r70 r77 s7 n7 => ?_⟩
    have bp : b ≠ p := (src_ne s5 hb).symm
    obtain ⟨z2, rfl, hz2⟩ := npick (m := 7) r70 r77
    have hz3 : z2 < noNum.length := hz2
    refine r_atL (sqL (stay n7 bp h6)) (atI_nat (j := z2) (strs_at (ws := noNum) hz3)) ?_
    have hw' := noNum_of (getD_memS (ws := noNum) hz3)
    generalize noNum.getD z2 (Str.ofString "") = w' at hw'
    have q7 := stay n7 qp (e6 _ _ q5)
    walk_at "st"
    refine r_setL (j := spot) q7 rfl (by rw [List.length_map]; exact spl) (fun H8 h8 n8 => ?_)
    rw [← List.map_set] at h8
    have bad := L.set_bad spl en hn hw'
    walk_at "st"
    refine r_join (sqL h8) (WLn.join (fun x hx => ?_) (by rw [List.length_set]; omega)) ?_
    · rcases List.mem_or_eq_of_mem_set hx with hx | rfl
      · exact (L.ok x hx).ln
      · exact hw'.2.2.ln
    exact k _ H8 bad (s7.stay (.of n8) qp.symm) (((b5.ext e6).trans (.of n7)).mut qH0 n8)
  walk_at "st"
  refine ite_d (fun c => ?_) (fun c5 => ?_)
  · walk_at "st"
    intro b H6 hb e6 h6
    walk_at "st"
    refine r_slL (sqL (e6 _ _ q5)) (fun d H7 hd' e7 h7 => ?_)
    rw [show cutV (ws.map V.str) (some 1) none = (ws.drop 1).map V.str by rw [show (1 : Int) = ((1 : Nat) : Int) from rfl, cut_from, List.map_drop]] at h7
    refine r_catL (e7 _ _ h6) h7 (by rw [List.length_map, List.length_drop]; show 1 + _ ≤ _; omega) (fun f H8 hf e8 h8 => ?_)
    have h8 : H8 f = some (.lst ((("fin" : Str) :: ws.drop 1).map V.str)) := h8
    have wk : ∀ x ∈ ("fin" : Str) :: ws.drop 1, WOk x := fun x hx => by
      rcases List.mem_cons.mp hx with rfl | hx
      · exact lit_w (by simp)
      · exact L.ok x (List.mem_of_mem_drop hx)
    have len : (("fin" : Str) :: ws.drop 1).length ≤ 240 := by rw [List.length_cons, List.length_drop]; omega
    walk_at "st"
    refine r_join (sqL h8) (WLn.join (fun x hx => (wk x hx).ln) len) ?_
    exact k _ H8 (L.badW (List.cons_ne_nil _ _) wk len L.fin) (((s5.ext e6).ext e7).ext e8) (((b5.ext e6).ext e7).ext e8)
  walk_at "st"
  refine ite_d (fun c => ?_) (fun c6 => ?_)
  · walk_at "st"
    intro b H6 hb e6 h6
    refine r_catL (e6 _ _ q5) h6 (by rw [List.length_map]; show _ + 1 ≤ _; omega) (fun f H8 hf e8 h8 => ?_)
    have h8 : H8 f = some (.lst ((ws ++ [("or" : Str)]).map V.str)) := by rw [h8, List.map_append]; rfl
    have wk : ∀ x ∈ ws ++ [("or" : Str)], WOk x := fun x hx => by
      rcases List.mem_append.mp hx with hx | hx
      · exact L.ok x hx
      · rw [List.mem_singleton.mp hx]; exact lit_w (by simp)
    have len : (ws ++ [("or" : Str)]).length ≤ 240 := by rw [List.length_append]; show _ + 1 ≤ _; omega
    walk_at "st"
    refine r_join (sqL h8) (WLn.join (fun x hx => (wk x hx).ln) len) ?_
    exact k _ H8 (L.badW (by simp) wk len L.or_) ((s5.ext e6).ext e8) ((b5.ext e6).ext e8)
  walk_at "st"
  refine ite_d (fun c => ?_) (fun c7 => ?_)
  · walk_at "st"
    refine k _ H5 ⟨fun c hc => (by cases hc), by decide, noneL_parts ?_⟩ s5 b5
    have : e0 = jn [e0] := (jn_one e0).symm
    show partsF e0 = none
    rw [this]
    exact parts_empty (fun x hx => .inr (List.mem_singleton.mp hx)) (List.mem_singleton.mpr rfl)
  walk_at "st"
  refine r_lenL (sqL q5) (n := (ws.length : Nat)) (by rw [List.length_map]) ?_
  walk_at "st"
  rw [show ((ws.length : Nat) : Int) - 1 = ((ws.length - 1 : Nat) : Int) by omega]
  refine r_atL (sqL q5) (atI_nat (strs_at (by omega))) ?_
  walk_at "st"
  intro t H6 ht e6 h6
  refine r_inStr (ss := (["front", "end"] : List Str)) (.inr (sqT h6)) ?_
  walk_at "st"
  refine ite_joinE (fun v H' => ∃ y : Str, v = .str y ∧ (y = "or" ∨ y = "front") ∧ H' = H6) (fun Q' hq => ?_) ?_
  · refine ite_d (fun c => ?_) (fun c => ?_)
    · walk_at "st"
      exact hq _ _ ⟨_, rfl, .inr rfl, rfl⟩
    · walk_at "st"
      exact hq _ _ ⟨_, rfl, .inl rfl, rfl⟩
  rintro v H6' ⟨y, rfl, hy, rfl⟩
  walk_at "st"
  intro b H7 hb e7 h7
  refine r_catL (e7 _ _ (e6 _ _ q5)) h7 (by rw [List.length_map]; show _ + 4 ≤ _; omega) (fun f H8 hf e8 h8 => ?_)
  have h8 : H8 f = some (.lst ((ws ++ ([y, "middle", "go", "1"] : List Str)).map V.str)) := by rw [h8, List.map_append]; rfl
  have wk : ∀ x ∈ ws ++ ([y, "middle", "go", "1"] : List Str), WOk x := fun x hx => by
    rcases List.mem_append.mp hx with hx | hx
    · exact L.ok x hx
    · simp only [List.mem_cons, List.not_mem_nil, or_false] at hx
      rcases hx with rfl | rfl | rfl | rfl
      · rcases hy with rfl | rfl
        · exact lit_w (by simp)
        · exact lit_w (by simp)
      · exact lit_w (by simp)
      · exact lit_w (by simp)
      · exact lit_w (by simp)
  have len : (ws ++ ([y, "middle", "go", "1"] : List Str)).length ≤ 240 := by rw [List.length_append]; show _ + 4 ≤ _; omega
  walk_at "st"
  refine r_join (sqL h8) (WLn.join (fun x hx => (wk x hx).ln) len) ?_
  exact k _ H8 (L.badW (by simp) wk len (L.mid y hy)) (((s5.ext e6).ext e7).ext e8) (((b5.ext e6).ext e7).ext e8)

end
end K35
set_option maxRecDepth 100000
set_option maxHeartbeats 4000000
namespace K35
open PySem PySem.Spec PyProof.Rows L2 L3
local macro_rules | `(tactic| walk_at "s1") => `(tactic| first
  | with_reducible refine r_seq ?_
  | with_reducible refine r_asgN ?_
  | with_reducible refine r_ret ?_
  | with_reducible refine r_next ?_
  | ((with_reducible refine' r_var ?hv ?_); (case hv => exact rfl))
  | with_reducible refine r_c ?_
  | with_reducible refine r_op ?_
  | with_reducible refine r_cons ?_
  | with_reducible refine r_nil ?_
  | with_reducible refine r_plusI ?_
  | with_reducible refine r_I0 ?_
  | with_reducible refine r_test ?_
  | with_reducible refine r_bl ?_
  | with_reducible refine r_ifS ?_
  | with_reducible refine r_cb ?_
  | with_reducible refine r_callS ?_
  | with_reducible refine r_and ?_
  | with_reducible refine r_or ?_
  | with_reducible refine r_not ?_
  | with_reducible refine r_B ?_
  | ((with_reducible refine' r_aug ?hv ?_); (case hv => exact rfl))
  | with_reducible refine r_augS ?_
  | with_reducible refine r_ipI ?_
  | with_reducible refine r_asg ?_
  | with_reducible refine r_sub ?_
  | with_reducible refine r_brk ?_
  | with_reducible refine r_isN1 ?_
  | with_reducible refine r_notN1 ?_
  | with_reducible refine r_intI ?_
  | with_reducible refine r_abs ?_
  | with_reducible refine r_min ?_
  | with_reducible refine r_max ?_
  | ((with_reducible refine' r_mod ?hz ?_); (case hz => omega))
  | ((with_reducible refine' r_pow ?hz ?_); (case hz => exact ⟨by decide, by decide, by decide⟩))
  | ((with_reducible refine' r_rg1 ?hz ?_); (case hz => omega))
  | ((with_reducible refine' r_rg2 ?hz ?_); (case hz => omega))
  | ((with_reducible refine' r_newL ?hz ?_); (case hz => exact Nat.le_of_ble_eq_true rfl))
  | ((with_reducible refine' r_newT ?hz ?_); (case hz => exact Nat.le_of_ble_eq_true rfl))
  | with_reducible refine r_for ?_
  | with_reducible refine r_lc ?_
  | with_reducible refine r_iR1 ?_
  | with_reducible refine r_iR2 ?_
  | with_reducible refine r_iL ?_
  | with_reducible refine r_iT ?_
  | with_reducible refine r_gname ?_
  | with_reducible refine r_gcons ?_
  | with_reducible refine r_gnil ?_
  | with_reducible refine r_yes ?_
  | with_reducible refine r_mkO ?_
  | with_reducible refine r_cont ?_
  | with_reducible refine r_drop ?_
  | with_reducible refine r_retN ?_
  | with_reducible refine r_ifC ?_
  | with_reducible refine r_ifI ?_
  | with_reducible refine r_if ?_
  | with_reducible refine r_un ?_
  | with_reducible refine r_neg ?_
  | with_reducible refine r_andV ?_
  | with_reducible refine r_orV ?_
  | with_reducible refine r_notV ?_
  | with_reducible refine r_tup ?_
  | with_reducible refine r_lst ?_
  | with_reducible refine r_bm ?_
  | with_reducible refine r_bm0 ?_
  | with_reducible refine r_sl ?_
  | with_reducible refine r_chain ?_
  | with_reducible refine r_listDn ?_
  | with_reducible refine r_listRg2 ?_
  | with_reducible refine r_listRg1 ?_
  | with_reducible refine r_revL ?_
  | with_reducible refine r_noPart ?_
  | with_reducible refine r_meth ?_
  | with_reducible refine r_methE ?_
  | with_reducible refine r_js ?_
  | with_reducible refine r_jsC ?_
  | with_reducible refine r_jsN ?_
  | with_reducible refine r_fmt ?_
  | with_reducible refine r_fld ?_
  | with_reducible refine r_sfld ?_
  | with_reducible refine r_make ?_
  | with_reducible refine r_m1 ?_
  | with_reducible refine r_m1s ?_
  | with_reducible refine r_iS ?_
  | with_reducible refine r_iE ?_
  | with_reducible refine r_si ?_
  | with_reducible refine r_strS ?_
  | with_reducible refine r_dgt ?_
  | with_reducible refine r_din ?_
  | with_reducible refine r_dnin ?_
  | with_reducible refine r_dput ?_
  | with_reducible refine r_dnew ?_
  | with_reducible refine r_disp1 ?_
  | with_reducible refine r_lenSet ?_
  | with_reducible refine r_get2 ?_
  | with_reducible refine r_get1 ?_
  | with_reducible refine r_daug ?_
  | with_reducible refine r_iR3 ?_
  | with_reducible refine r_prC ?_
  | with_reducible refine r_prN ?_
  | with_reducible refine r_part ?_
  | with_reducible refine r_int ?_
  | ((with_reducible refine' r_sameS ?hs ?_); (case hs => exact rfl))
  | ((with_reducible refine' r_otherS ?hs ?_); (case hs => exact rfl))
  | with_reducible refine ite_t ?_
  | with_reducible refine ite_f ?_
  | with_reducible refine ite_nt ?_
  | with_reducible refine ite_nf ?_)
local macro_rules | `(tactic| walk_at "st") => `(tactic| repeat (walk_at "s1"))
local macro_rules | `(tactic| walk_at "su") => `(tactic| first
  | with_reducible refine r_seq ?_
  | with_reducible refine r_asgN ?_
  | with_reducible refine r_ret ?_
  | with_reducible refine r_next ?_
  | ((with_reducible refine' r_var ?hv ?_); (case hv => exact rfl))
  | with_reducible refine r_c ?_
  | with_reducible refine r_op ?_
  | with_reducible refine r_cons ?_
  | with_reducible refine r_nil ?_
  | with_reducible refine r_plusI ?_
  | with_reducible refine r_I0 ?_
  | with_reducible refine r_test ?_
  | with_reducible refine r_bl ?_
  | with_reducible refine r_cb ?_
  | with_reducible refine r_callS ?_
  | with_reducible refine r_and ?_
  | with_reducible refine r_or ?_
  | with_reducible refine r_not ?_
  | with_reducible refine r_B ?_
  | ((with_reducible refine' r_aug ?hv ?_); (case hv => exact rfl))
  | with_reducible refine r_augS ?_
  | with_reducible refine r_ipI ?_
  | with_reducible refine r_asg ?_
  | with_reducible refine r_sub ?_
  | with_reducible refine r_brk ?_
  | with_reducible refine r_isN1 ?_
  | with_reducible refine r_notN1 ?_
  | with_reducible refine r_intI ?_
  | with_reducible refine r_abs ?_
  | with_reducible refine r_min ?_
  | with_reducible refine r_max ?_
  | ((with_reducible refine' r_mod ?hz ?_); (case hz => omega))
  | ((with_reducible refine' r_pow ?hz ?_); (case hz => exact ⟨by decide, by decide, by decide⟩))
  | ((with_reducible refine' r_rg1 ?hz ?_); (case hz => omega))
  | ((with_reducible refine' r_rg2 ?hz ?_); (case hz => omega))
  | ((with_reducible refine' r_newL ?hz ?_); (case hz => exact Nat.le_of_ble_eq_true rfl))
  | ((with_reducible refine' r_newT ?hz ?_); (case hz => exact Nat.le_of_ble_eq_true rfl))
  | with_reducible refine r_for ?_
  | with_reducible refine r_lc ?_
  | with_reducible refine r_iR1 ?_
  | with_reducible refine r_iR2 ?_
  | with_reducible refine r_iL ?_
  | with_reducible refine r_iT ?_
  | with_reducible refine r_gname ?_
  | with_reducible refine r_gcons ?_
  | with_reducible refine r_gnil ?_
  | with_reducible refine r_yes ?_
  | with_reducible refine r_mkO ?_
  | with_reducible refine r_cont ?_
  | with_reducible refine r_drop ?_
  | with_reducible refine r_retN ?_
  | with_reducible refine r_ifC ?_
  | with_reducible refine r_ifI ?_
  | with_reducible refine r_if ?_
  | with_reducible refine r_un ?_
  | with_reducible refine r_neg ?_
  | with_reducible refine r_andV ?_
  | with_reducible refine r_orV ?_
  | with_reducible refine r_notV ?_
  | with_reducible refine r_tup ?_
  | with_reducible refine r_lst ?_
  | with_reducible refine r_bm ?_
  | with_reducible refine r_bm0 ?_
  | with_reducible refine r_sl ?_
  | with_reducible refine r_chain ?_
  | with_reducible refine r_listDn ?_
  | with_reducible refine r_listRg2 ?_
  | with_reducible refine r_listRg1 ?_
  | with_reducible refine r_revL ?_
  | with_reducible refine r_noPart ?_
  | with_reducible refine r_meth ?_
  | with_reducible refine r_methE ?_
  | with_reducible refine r_js ?_
  | with_reducible refine r_jsC ?_
  | with_reducible refine r_jsN ?_
  | with_reducible refine r_fmt ?_
  | with_reducible refine r_fld ?_
  | with_reducible refine r_sfld ?_
  | with_reducible refine r_make ?_
  | with_reducible refine r_m1 ?_
  | with_reducible refine r_m1s ?_
  | with_reducible refine r_iS ?_
  | with_reducible refine r_iE ?_
  | with_reducible refine r_si ?_
  | with_reducible refine r_strS ?_
  | with_reducible refine r_dgt ?_
  | with_reducible refine r_din ?_
  | with_reducible refine r_dnin ?_
  | with_reducible refine r_dput ?_
  | with_reducible refine r_dnew ?_
  | with_reducible refine r_disp1 ?_
  | with_reducible refine r_lenSet ?_
  | with_reducible refine r_get2 ?_
  | with_reducible refine r_get1 ?_
  | with_reducible refine r_daug ?_
  | with_reducible refine r_iR3 ?_
  | with_reducible refine r_prC ?_
  | with_reducible refine r_prN ?_
  | with_reducible refine r_part ?_
  | with_reducible refine r_int ?_
  | ((with_reducible refine' r_sameS ?hs ?_); (case hs => exact rfl))
  | ((with_reducible refine' r_otherS ?hs ?_); (case hs => exact rfl))
  | with_reducible refine ite_t ?_
  | with_reducible refine ite_f ?_
  | with_reducible refine ite_nt ?_
  | with_reducible refine ite_nf ?_)
local macro_rules | `(tactic| walk_at "sv") => `(tactic| repeat (walk_at "su"))

section
variable {P : Program} {w : World} {K : PySem.W.Frag} {mg : Str → Option Value} {base : Heap}

/-! ### the reader on texts of lines -/
theorem codeF_bad {ls : List Str} {i : Nat} (h1 : ls.length ≤ 4000) (hi : i < ls.length) (ok0 : 0 < i → ∃ v, headL (ls.getD 0 e0) = some v) (ok : ∀ j, 1 ≤ j → j < i → (rowL (ls.getD j e0)).isSome = true) (bad : noneL (decide (i = 0)) (ls.getD i e0)) : codeF ls = .bad i := by
  unfold codeF
  rw [if_neg (by omega)]
  cases i with
  | zero =>
    have bad : headL (ls.getD 0 e0) = none := bad
    rw [bad]
  | succ i =>
    have bad : rowL (ls.getD (i + 1) e0) = none := bad
    obtain ⟨⟨h, t⟩, hv⟩ := ok0 (by omega)
    rw [hv]
    show (if rowsB ls = true then _ else _) = _
    have gd : (ls.drop 1)[i]? = some (ls.getD (i + 1) e0) := by
      rw [List.getElem?_drop, List.getD_eq_getElem?_getD, Nat.add_comm 1 i, List.getElem?_eq_getElem hi]
      rfl
    have nb : rowsB ls = false := all_no gd (by rw [bad]; rfl)
    rw [if_neg (by rw [nb]; exact Bool.noConfusion)]
    have il : i < (ls.drop 1).length := by rw [List.length_drop]; omega
    have fi : (ls.drop 1).findIdx (fun x => (rowL x).isNone) = i := by
      rw [List.findIdx_eq il]
      rw [List.getElem?_eq_getElem il] at gd
      refine ⟨by rw [Option.some.inj gd, bad]; rfl, fun j hj => ?_⟩
      have gj : (ls.drop 1)[j]'(by omega) = ls.getD (j + 1) e0 := by
        rw [List.getElem_drop, List.getD_eq_getElem?_getD, List.getElem?_eq_getElem (by omega)]
        show ls[1 + j] = ls[j + 1]
        congr 1
        omega
      have := ok (j + 1) (by omega) (by omega)
      rw [gj]
      cases hz : rowL (ls.getD (j + 1) e0) with
      | none => rw [hz] at this; cases this
      | some d => rfl
    rw [fi]
    congr 1
    omega
theorem lns_at {rows : List PyData} {a b j : Nat} (h : j < rows.length) : (lnsC rows a b).getD (j + 1) e0 = jn (rowW rows[j]) := by
  unfold lnsC
  rw [List.getD_eq_getElem?_getD, List.getElem?_cons_succ, List.getElem?_map, List.getElem?_eq_getElem h]
  rfl
theorem lns_length {rows : List PyData} {a b : Nat} : (lnsC rows a b).length = rows.length + 1 := by
  unfold lnsC
  rw [List.length_cons, List.length_map]
theorem RowR.ne {d : PyData} (h : RowR d) : rowW d ≠ [] := h.ln.ne
theorem row_some {d : PyData} (h : RowR d) : rowL (jn (rowW d)) = some d := by
  rw [rowL_w h.ne fun w hw => (h.words.1 w hw).1]
  exact h.back
theorem head_some {a b : Nat} (h1 : a ≤ 10 ^ 30) (h2 : b ≤ 10 ^ 30) : headL (jn (headW a b)) = some ((a : Int), (b : Int)) := by
  rw [headL_w (ws := headW a b) (List.cons_ne_nil _ _) fun w hw => (head_words h1 h2 w hw).1]
  exact head_ok h1 h2
theorem big_no {ws : List Str} (ne : ws ≠ []) (h : ∀ w ∈ ws, WOk w ∧ bigN w = false) : bigL (jn ws) = false := by
  unfold bigL
  rw [partsF_w ne fun x hx => (h x hx).1]
  exact List.any_eq_false.mpr fun w hw => by rw [(h w hw).2]; exact Bool.noConfusion
theorem rowsO_lns {rows : List PyData} {a b : Nat} (hR : ∀ d ∈ rows, RowR d) : rowsB (lnsC rows a b) = true ∧ rowsO (lnsC rows a b) = rows := by
  constructor
  · unfold rowsB lnsC
    show (rows.map fun d => jn (rowW d)).all _ = true
    rw [List.all_eq_true]
    intro x hx
    obtain ⟨d, hd, rfl⟩ := List.mem_map.mp hx
    rw [row_some (hR d hd)]
    rfl
  · unfold rowsO lnsC
    show (rows.map fun d => jn (rowW d)).map _ = rows
    rw [List.map_map]
    conv => rhs; rw [← List.map_id rows]
    exact List.map_congr_left fun d hd => by
      show (rowL (jn (rowW d))).getD .none = d
      rw [row_some (hR d hd)]
      rfl
theorem RowR.few {d : PyData} (h : RowR d) : manyB d = false := by
  cases h with
  | leaf a b h1 h2 => rfl
  | tie a b c h1 h2 h3 => rfl
  | find a l h1 hl ll =>
    unfold manyB
    refine decide_eq_false ?_
    show ¬ 7 < (if ("find" : Str) = "find" then l.length else 0)
    rw [if_pos rfl]
    omega
theorem codeF_ok {rows : List PyData} {a b : Nat} (hR : ∀ d ∈ rows, RowR d) (ll : rows.length ≤ 50) (h1 : a ≤ 10 ^ 30) (h2 : b ≤ 10 ^ 30) : codeF (lnsC rows a b) = .ok rows (a : Int) (b : Int) := by
  obtain ⟨rb, ro⟩ := rowsO_lns (a := a) (b := b) hR
  unfold codeF
  rw [if_neg (by rw [lns_length]; omega), show (lnsC rows a b).getD 0 e0 = jn (headW a b) from rfl, head_some h1 h2]
  show (if rowsB _ = true then (if _ then _ else if _ then _ else _) else _) = _
  rw [if_pos rb, if_neg, if_neg, ro]
  · rw [ro]
    rw [List.any_eq_false.mpr fun d hd => by rw [(hR d hd).few]; exact Bool.noConfusion]
    exact Bool.noConfusion
  · rw [List.any_eq_false.mpr fun x hx => by
      rcases List.mem_cons.mp hx with rfl | hx
      · rw [big_no (ws := headW a b) (List.cons_ne_nil _ _) (head_words h1 h2)]; exact Bool.noConfusion
      · obtain ⟨d, hd, rfl⟩ := List.mem_map.mp hx
        rw [big_no (hR d hd).ne (hR d hd).words.1]; exact Bool.noConfusion]
    exact Bool.noConfusion
/-! texts -/
structure TxR (ls : List Str) : Prop where
  ne : ls ≠ []
  nl : ∀ l ∈ ls, ∀ c ∈ l.cps.toList, c ≠ 10
  len : ∀ l ∈ ls, l.length ≤ 20000
  n : ls.length ≤ 45
theorem TxR.split {ls : List Str} (h : TxR ls) : Txt.split (Txt.join (Str.ofString "\n") ls) (Str.ofString "\n") = ls :=
  TL.split_join nl_tl (by decide +kernel) h.ne fun p hp hm => h.nl p hp 10 hm rfl
theorem nl_len (l : List Str) : (Txt.join (Str.ofString "\n") l).length ≤ (l.map (·.length)).sum + l.length := by
  rw [TL.join_eq]
  have e : (Str.ofString "\n").length = 1 := by decide
  induction l with
  | nil => exact Nat.zero_le _
  | cons a l ih =>
    cases l with
    | nil => show a.length ≤ (a.length + 0) + 1; omega
    | cons b l =>
      show (a ++ Str.ofString "\n" ++ Str.join _ (b :: l)).length ≤ _
      rw [len_app, len_app, e, List.map_cons, List.sum_cons, List.length_cons]
      omega
theorem TxR.tlen {ls : List Str} (h : TxR ls) : (Txt.join (Str.ofString "\n") ls).length ≤ 1000000 := by
  have h1 := nl_len ls
  have h2 := sum_len h.len
  have h3 := h.n
  omega
theorem TxR.join {ls : List Str} (h : TxR ls) : (ls.map (·.length)).sum + ls.length * (Str.ofString "\n").length ≤ 16777216 :=
  join_le (m := 20000) (n := 45) (k := 1) h.len h.n (by decide +kernel) (by decide)
theorem TxR.read {K : PySem.W.Frag} {H : Hp} {Q : VK} {E : XK} {ls : List Str} (h : TxR ls) (k : ∀ y H', Ext H H' → Dp K H' y (readD (codeF ls)) → Q y H') : spRead K [.str (Txt.join (Str.ofString "\n") ls)] H Q E :=
  ⟨_, ls, rfl, h.tlen, h.split, List.length_pos_iff.mpr h.ne, fun l hl => by have := h.len l hl; omega, k⟩
theorem readE {K : PySem.W.Frag} {H : Hp} {Q : VK} {E : XK} (k : ∀ y H', Ext H H' → Dp K H' y (.tuple [.str "BadText", .int ((0 + 1 : Nat) : Int)]) → Q y H') : spRead K [.str e0] H Q E := by
  have tx3 : TxR [e0] := ⟨by simp, fun l hl => (by rw [List.mem_singleton.mp hl]; exact fun c hc => (by cases hc)), fun l hl => (by rw [List.mem_singleton.mp hl]; decide), by decide⟩
  have e0p : partsF e0 = none := by
    have : e0 = jn [e0] := (jn_one e0).symm
    rw [this]
    exact parts_empty (fun x hx => .inr (List.mem_singleton.mp hx)) (List.mem_singleton.mpr rfl)
  have bad : codeF [e0] = .bad 0 := codeF_bad (by decide) (by decide) (fun h => absurd h (by decide)) (fun j h1 h2 => absurd h2 (by omega)) (noneL_parts e0p)
  have rd : spRead K [.str (Txt.join (Str.ofString "\n") [e0])] H Q E := tx3.read fun y H' e d => k y H' e (by rw [bad] at d; exact d)
  rw [show Txt.join (Str.ofString "\n") [e0] = e0 from join_one] at rd
  exact rd
theorem BadLn.tx {hd : Bool} {x : Str} (h : BadLn hd x) : (∀ c ∈ x.cps.toList, c ≠ 10) ∧ x.length ≤ 20000 := ⟨h.nl, h.len⟩
theorem jn_nl {ws : List Str} (h : ∀ x ∈ ws, WOk x) : ∀ c ∈ (jn ws).cps.toList, c ≠ 10 := fun c hc => by
  have := jn_mem h hc
  omega
theorem lns_tx {rows : List PyData} {a b : Nat} (h1 : a ≤ 10 ^ 30) (h2 : b ≤ 10 ^ 30) (hR : ∀ d ∈ rows, RowR d) : ∀ l ∈ lnsC rows a b, (∀ c ∈ l.cps.toList, c ≠ 10) ∧ l.length ≤ 20000 := fun l hl => by
  have := lns_len h1 h2 hR l hl
  refine ⟨?_, by omega⟩
  rcases List.mem_cons.mp hl with rfl | hl
  · exact jn_nl fun w hw => (head_words h1 h2 w hw).1
  · obtain ⟨d, hd, rfl⟩ := List.mem_map.mp hl
    exact jn_nl fun w hw => ((hR d hd).words.1 w hw).1
theorem TxR.of {ls : List Str} (ne : ls ≠ []) (h : ∀ l ∈ ls, (∀ c ∈ l.cps.toList, c ≠ 10) ∧ l.length ≤ 20000) (n : ls.length ≤ 45) : TxR ls := ⟨ne, fun l hl => (h l hl).1, fun l hl => (h l hl).2, n⟩
/-- what a right code's line is -/
theorem lns_ln {rows : List PyData} {a b : Nat} (h1 : a ≤ 10 ^ 30) (h2 : b ≤ 10 ^ 30) (hR : ∀ d ∈ rows, RowR d) {i : Nat} (hi : i < (lnsC rows a b).length) : ∃ ws, (lnsC rows a b).getD i e0 = jn ws ∧ LnR (decide (i = 0)) ws := by
  cases i with
  | zero => exact ⟨headW a b, rfl, head_ln h1 h2⟩
  | succ i =>
    rw [lns_length] at hi
    exact ⟨rowW rows[i], lns_at (by omega), (hR _ (List.getElem_mem _)).ln⟩
/-- a right text with another line at i -/
theorem codeF_at {rows : List PyData} {a b : Nat} (h1 : a ≤ 10 ^ 30) (h2 : b ≤ 10 ^ 30) (hR : ∀ d ∈ rows, RowR d) {ls : List Str} {i : Nat} (hn : ls.length ≤ 4000) (hi : i < ls.length) (same : ∀ j, j < i → j < (lnsC rows a b).length ∧ ls.getD j e0 = (lnsC rows a b).getD j e0) (bad : noneL (decide (i = 0)) (ls.getD i e0)) : codeF ls = .bad i := by
  refine codeF_bad hn hi (fun h0 => ?_) (fun j j1 ji => ?_) bad
  · rw [(same 0 h0).2]
    exact ⟨_, head_some h1 h2⟩
  · obtain ⟨hl, e⟩ := same j ji
    rw [lns_length] at hl
    obtain ⟨j, rfl⟩ : ∃ k, j = k + 1 := ⟨j - 1, by omega⟩
    rw [e, lns_at (by omega), row_some (hR _ (List.getElem_mem _))]
    rfl
/-! comparing what was read -/
theorem sh_bt (n : Int) : SeqAt.shaped (.tuple [.str "BadText", .int n]) = true ∧ (PyData.tuple [.str "BadText", .int n]).eqv (.tuple [.str "BadText", .int n]) = true := by
  have h : PyData.strOk ("BadText" : Str) = true := by decide +kernel
  constructor
  · simp [SeqAt.shaped, PyData.canLay0, PyData.canLayAll0, PyData.depth, PyData.depthAll, h]
  · simp [PyData.eqv, PyData.eqvAll]
theorem r_otherB {K : PySem.W.Frag} {H : Hp} {Q : VK} {y : V} {t : Addr} {n : Int} (h1 : Dp K H y (.tuple [.str "BadText", .int n])) (h2 : H t = some (.tup [.str "BadText", .int n])) (k : Q (.bl false) H) : rOther K y (.ref t) H Q :=
  .inr ⟨_, _, h1, .tup (sqT h2) (.cons (.str _) (.cons (.int _) .nil)), (sh_bt n).1, (sh_bt n).1, by rw [(sh_bt n).2]; exact k⟩
theorem r_sameB {K : PySem.W.Frag} {H : Hp} {Q : VK} {y : V} {t : Addr} {n : Int} (h1 : Dp K H y (.tuple [.str "BadText", .int n])) (h2 : H t = some (.tup [.str "BadText", .int n])) (k : Q (.bl true) H) : rSame K y (.ref t) H Q :=
  .inr ⟨_, _, h1, .tup (sqT h2) (.cons (.str _) (.cons (.int _) .nil)), (sh_bt n).1, (sh_bt n).1, by rw [(sh_bt n).2]; exact k⟩
def spSpT (K : PySem.W.Frag) : Sp := fun vs H Q _ => ∃ (p L : Addr) (rows : List PyData) (a b : Nat), vs = [.ref p, .ref L] ∧ Src H p ∧ H L = some (.lst ((lnsC rows a b).map V.str)) ∧ (∀ d ∈ rows, RowR d) ∧ rows.length ≤ 30 ∧ a ≤ 10 ^ 30 ∧ b ≤ 10 ^ 30 ∧ ∀ H', Src H' p → But p H H' → Q (.bl true) H'
theorem getD_cat {A B : List Str} {x : Str} {j : Nat} : (A ++ x :: B).getD j e0 = if j < A.length then A.getD j e0 else if j = A.length then x else B.getD (j - A.length - 1) e0 := by
  rw [List.getD_eq_getElem?_getD]
  by_cases c : j < A.length
  · rw [if_pos c, List.getElem?_append_left c, List.getD_eq_getElem?_getD]
  · rw [if_neg c, List.getElem?_append_right (by omega)]
    by_cases c2 : j = A.length
    · rw [if_pos c2, c2, Nat.sub_self]
      rfl
    · obtain ⟨k, hk⟩ : ∃ k, j - A.length = k + 1 := ⟨j - A.length - 1, by omega⟩
      rw [if_neg c2, hk, List.getElem?_cons_succ, List.getD_eq_getElem?_getD]
      rfl
theorem getD_take {A : List Str} {n j : Nat} (h : j < n) : (A.take n).getD j e0 = A.getD j e0 := by
  rw [List.getD_eq_getElem?_getD, List.getElem?_take_of_lt h, List.getD_eq_getElem?_getD]
theorem strs_ne35 {H : Hp} {p l : Addr} {ss : List Str} (s : Src H p) (h : H l = some (.lst (ss.map V.str))) : l ≠ p := fun e => by
  obtain ⟨a, b, c, s⟩ := s
  rw [e, s] at h
  cases ss with
  | nil => cases h
  | cons x r => cases h
theorem sc__law_spoilt_text : FnScope ["source", "lines", "at", "made", "more"] ["source", "lines"] (defScope s__law_spoilt_text) := ⟨rfl, rfl, rfl, by decide +kernel, rfl, by decide +kernel, by decide +kernel⟩
theorem ok__law_spoilt_text (T : Txt w K mg) : CalG P w K mg base 14 "_law_spoilt_text" ["source", "lines"] (spSpT K) := by
  have c__law_pick := ok_law_pick (P := P) (base := base) T
  have c__law_spoilt_line := ok__law_spoilt_line (P := P) (base := base) T
  have c__law_read := ok__law_read (P := P) (base := base) T
  refine calG_of T.g__law_spoilt_text T.d__law_spoilt_text sc__law_spoilt_text (fun _ _ _ _ _ _ _ us hl => match us, hl with | [_, _], _ => rfl) (fun vs H Q E h => by obtain ⟨_, _, _, _, _, rfl, _⟩ := h; rfl) (fun cdv A outer s H vs Q E hr h => ?_)
  have nd := sc__law_spoilt_text.nd
  have hu := hu64 hr
  obtain ⟨p, L, rows, a, b, rfl, sp, hL, hR, lR, ha, hb, k⟩ := h
  have Lp := strs_ne35 sp hL
  have ltx := lns_tx ha hb hR
  have lln := fun {i} => lns_ln ha hb hR (i := i)
  have lat := fun {ls i} => codeF_at ha hb hR (ls := ls) (i := i)
  have llen : (lnsC rows a b).length = rows.length + 1 := lns_length
  generalize lnsC rows a b = ls at hL ltx lln lat llen
  refine ⟨_, (pss_cons (ps_set (i := 2) nd rfl (Or.inl rfl) (pe_cal c__law_pick hr (by omega) (fun σ => L2N.passAt (L2N.takes_of rfl rfl rfl rfl) σ) (pa_cons (pv 0) (pa_cons (pe_callB (lenK (K := K)) (by rfl) T.f_len boot_len (pa_cons (pv 1) pa_nil)) pa_nil))))
        (pss_cons (ps_set (i := 3) nd rfl (Or.inl rfl) (pe_op (plusK (K := K)) (pe_op (plusK (K := K)) (pe_slice (slK (K := K)) (pv 1) po_none (po_some (pv 2))) (pe_lst (pa_cons (pe_cal c__law_spoilt_line hr (by omega) (fun σ => L2N.passAt (L2N.takes_of rfl rfl rfl rfl) σ) (pa_cons (pv 0) (pa_cons (pe_ix (ixK (K := K)) (pv 1) (pv 2) (fun _ _ => rfl)) pa_nil))) pa_nil))) (pe_slice (slK (K := K)) (pv 1) (po_some (pe_op (plusK (K := K)) (pv 2) pe_int)) po_none)))
        (C8.pss_cut (ps_if (PW.pt (pw_and (pt_cmpR (sameK (K := K) hu) (pe_cal c__law_pick hr (by omega) (fun σ => L2N.passAt (L2N.takes_of rfl rfl rfl rfl) σ) (pa_cons (pv 0) (pa_cons pe_int pa_nil))) pe_int (nomark _)) (pw_and1 (pt_cmpR op_lt (pe_op (plusK (K := K)) (pv 2) pe_int) (pe_callB (lenK (K := K)) (by rfl) T.f_len boot_len (pa_cons (pv 1) pa_nil)) (nomark _))))) (pss_cons (ps_set (i := 4) nd rfl (Or.inl rfl) (pe_op (plusK (K := K)) (pe_op (plusK (K := K)) (pv 2) pe_int) (pe_cal c__law_pick hr (by omega) (fun σ => L2N.passAt (L2N.takes_of rfl rfl rfl rfl) σ) (pa_cons (pv 0) (pa_cons (pe_op op_sub (pe_op op_sub (pe_callB (lenK (K := K)) (by rfl) T.f_len boot_len (pa_cons (pv 1) pa_nil)) (pv 2)) pe_int) pa_nil)))))
        (pss_one (ps_set (i := 3) nd rfl (Or.inl rfl) (pe_op (plusK (K := K)) (pe_op (plusK (K := K)) (pe_slice (slK (K := K)) (pv 3) po_none (po_some (pv 4))) (pe_lst (pa_cons (pe_cal c__law_spoilt_line hr (by omega) (fun σ => L2N.passAt (L2N.takes_of rfl rfl rfl rfl) σ) (pa_cons (pv 0) (pa_cons (pe_ix (ixK (K := K)) (pv 3) (pv 4) (fun _ _ => rfl)) pa_nil))) pa_nil))) (pe_slice (slK (K := K)) (pv 3) (po_some (pe_op (plusK (K := K)) (pv 4) pe_int)) po_none))))) pss_nil)
        (pss_cons (ps_if (pt_cmpR (otherK (K := K) hu) (pe_cal c__law_read hr (by omega) (fun σ => L2N.passAt (L2N.takes_of rfl rfl rfl rfl) σ) (pa_cons (pe_joinK (K := K) pe_str (pv 3)) pa_nil)) (pe_tup (pa_cons pe_str (pa_cons (pe_op (plusK (K := K)) (pv 2) pe_int) pa_nil))) (nomark _)) (pss_one (ps_ret pe_bl)) pss_nil)
        (pss_one (ps_ret (pe_and (pe_cmpR (sameK (K := K) hu) (pe_cal c__law_read hr (by omega) (fun σ => L2N.passAt (L2N.takes_of rfl rfl rfl rfl) σ) (pa_cons (pe_joinK (K := K) pe_str (pe_op (plusK (K := K)) (pv 1) (pe_lst (pa_cons pe_str pa_nil)))) pa_nil)) (pe_tup (pa_cons pe_str (pa_cons (pe_op (plusK (K := K)) (pe_callB (lenK (K := K)) (by rfl) T.f_len boot_len (pa_cons (pv 1) pa_nil)) pe_int) pa_nil))) (nomark _)) (pe_one (pe_cmpR (sameK (K := K) hu) (pe_cal c__law_read hr (by omega) (fun σ => L2N.passAt (L2N.takes_of rfl rfl rfl rfl) σ) (pa_cons pe_str pa_nil)) (pe_tup (pa_cons pe_str (pa_cons pe_int pa_nil))) (nomark _)))))))))), ?_⟩
  walk_at "st"
  refine r_lenL (sqL hL) (n := (ls.length : Nat)) (by rw [List.length_map]) ?_
  walk_at "st"
  refine ⟨p, (ls.length : Nat), rfl, sp, by omega, by omega, fun r1 H1 r10 r1m s1 n1 => ?_⟩
  obtain ⟨at_, rfl, hat⟩ := npick r10 r1m
  have b1 : But p H H1 := .of n1
  have L1 := b1 _ _ Lp hL
  walk_at "st"
  refine r_slL (sqL L1) (fun x H2 hx e2 h2 => ?_)
  rw [cut_to, ← List.map_take] at h2
  walk_at "st"
  refine r_atL (sqL (e2 _ _ L1)) (atI_nat (strs_at hat)) ?_
  obtain ⟨ws, ew, lw⟩ := lln hat
  rw [show ls.getD at_ (Str.ofString "") = jn ws from ew]
  walk_at "st"
  refine ⟨p, decide (at_ = 0), ws, rfl, s1.ext e2, lw, fun bad H3 hbad s3 b23 => ?_⟩
  have xp : x ≠ p := (src_ne s1 hx).symm
  have b3 := (b1.ext e2).trans b23
  walk_at "st"
  intro y H4 hy e4 h4
  have h4 : H4 y = some (.lst ([bad].map V.str)) := h4
  refine r_catL (e4 _ _ (b23 _ _ xp h2)) h4 (by rw [List.length_map, List.length_map, List.length_take]; show _ + 1 ≤ _; omega) (fun u H5 hu5 e5 h5 => ?_)
  walk_at "st"
  have L5 := e5 _ _ (e4 _ _ (b3 _ _ Lp hL))
  refine r_slL (sqL L5) (fun v H6 hv e6 h6 => ?_)
  rw [show (at_ : Int) + 1 = ((at_ + 1 : Nat) : Int) by omega, cut_from, ← List.map_drop] at h6
  refine r_catL (e6 _ _ h5) h6 (by rw [List.length_append, List.length_map, List.length_map, List.length_map, List.length_take, List.length_drop]; show _ + 1 + _ ≤ _; omega) (fun m H7 hm e7 h7 => ?_)
  have s7 := ((s3.ext e4).ext e5).ext e6 |>.ext e7
  have b7 := (((b3.ext e4).ext e5).ext e6).ext e7
  have h7 : H7 m = some (.lst ((ls.take at_ ++ bad :: ls.drop (at_ + 1)).map V.str)) := by rw [h7, List.map_append, List.map_cons, List.append_assoc]; rfl
  have made0 : (∀ l ∈ ls.take at_ ++ bad :: ls.drop (at_ + 1), (∀ c ∈ l.cps.toList, c ≠ 10) ∧ l.length ≤ 20000) ∧ (ls.take at_ ++ bad :: ls.drop (at_ + 1)).length = ls.length ∧ (∀ j, j < at_ → (ls.take at_ ++ bad :: ls.drop (at_ + 1)).getD j e0 = ls.getD j e0) ∧ (ls.take at_ ++ bad :: ls.drop (at_ + 1)).getD at_ e0 = bad ∧ ∀ j, at_ < j → (ls.take at_ ++ bad :: ls.drop (at_ + 1)).getD j e0 = ls.getD j e0 := by
    have lt : (ls.take at_).length = at_ := by rw [List.length_take]; omega
    refine ⟨fun l hl => ?_, ?_, fun j hj => ?_, ?_, fun j hj => ?_⟩
    · rcases List.mem_append.mp hl with hl | hl
      · exact ltx l (List.mem_of_mem_take hl)
      · rcases List.mem_cons.mp hl with rfl | hl
        · exact hbad.tx
        · exact ltx l (List.mem_of_mem_drop hl)
    · rw [List.length_append, List.length_cons, lt, List.length_drop]
      omega
    · rw [getD_cat, lt, if_pos hj, getD_take hj]
    · rw [getD_cat, lt, if_neg (Nat.lt_irrefl _), if_pos rfl]
    · rw [getD_cat, lt, if_neg (by omega), if_neg (by omega), List.getD_eq_getElem?_getD, List.getElem?_drop, List.getD_eq_getElem?_getD, show at_ + 1 + (j - at_ - 1) = j by omega]
  generalize ls.take at_ ++ bad :: ls.drop (at_ + 1) = md at h7 made0
  obtain ⟨mtx, mlen, mbef, mat, maft⟩ := made0
  walk_at "st"
  refine r_cut (fun σ' H' => ∃ (v5 : Option V) (m' : Addr) (md' : List Str), σ' = [some (.ref p), some (.ref L), some (.int (at_ : Nat)), some (.ref m'), v5] ∧ Src H' p ∧ But p H H' ∧ H' m' = some (.lst (md'.map V.str)) ∧ (∀ l ∈ md', (∀ c ∈ l.cps.toList, c ≠ 10) ∧ l.length ≤ 20000) ∧ md'.length = ls.length ∧ (∀ j, j < at_ → md'.getD j e0 = ls.getD j e0) ∧ md'.getD at_ e0 = bad) ?_ ?_
  · have mp := strs_ne35 s7 h7
    walk_at "st"
    refine ⟨p, 2, rfl, s7, by decide, by decide, fun r8 H8 r80 r82 s8 n8 => ?_⟩
    have b8 := b7.trans (.of n8)
    have h8 := stay n8 mp h7
    have L8 := b8 _ _ Lp hL
    walk_at "st"
    refine ite_d (fun c => ?_) (fun c => ?_)
    · walk_at "st"
      refine r_lenL (sqL L8) (n := (ls.length : Nat)) (by rw [List.length_map]) ?_
      walk_at "st"
      refine ite_d (fun c => ?_) (fun c => ?_)
      · have cl : at_ + 1 < ls.length := by omega
        walk_at "st"
        refine r_lenL (sqL L8) (n := (ls.length : Nat)) (by rw [List.length_map]) ?_
        walk_at "st"
        refine ⟨p, ((ls.length - at_ - 1 : Nat) : Int), by rw [show ((ls.length : Nat) : Int) - (at_ : Int) - 1 = ((ls.length - at_ - 1 : Nat) : Int) by omega], s8, by omega, by omega, fun r9 H9 r90 r9m s9 n9 => ?_⟩
        obtain ⟨z, rfl, hz⟩ := npick r90 r9m
        have h9 := stay n9 mp h8
        have b9 := b8.trans (.of n9)
        obtain ⟨mr, emr⟩ : ∃ mr : Nat, mr = at_ + 1 + z := ⟨_, rfl⟩
        have emi : (at_ : Int) + 1 + (z : Int) = (mr : Nat) := by omega
        have hmr : mr < md.length := by omega
        walk_at "st"
        rw [emi]
        walk_at "st"
        refine r_slL (sqL h9) (fun x2 G1 hx2 f1 g1 => ?_)
        rw [cut_to, ← List.map_take] at g1
        walk_at "st"
        refine r_atL (sqL (f1 _ _ h9)) (atI_nat (strs_at hmr)) ?_
        obtain ⟨ws2, ew2, lw2⟩ := lln (show mr < ls.length by omega)
        rw [show md.getD mr (Str.ofString "") = jn ws2 from (maft mr (by omega)).trans ew2]
        walk_at "st"
        refine ⟨p, decide (mr = 0), ws2, rfl, s9.ext f1, lw2, fun bad2 G2 hbad2 t2 c2 => ?_⟩
        have x2p : x2 ≠ p := (src_ne s9 hx2).symm
        have c9 := (b9.ext f1).trans c2
        walk_at "st"
        intro y2 G3 hy2 f3 g3
        have g3 : G3 y2 = some (.lst ([bad2].map V.str)) := g3
        refine r_catL (f3 _ _ (c2 _ _ x2p g1)) g3 (by rw [List.length_map, List.length_map, List.length_take]; show _ + 1 ≤ _; omega) (fun u2 G4 hu2 f4 g4 => ?_)
        walk_at "st"
        have m4 := f4 _ _ (f3 _ _ (c2 _ _ mp (f1 _ _ h9)))
        refine r_slL (sqL m4) (fun v2 G5 hv2 f5 g5 => ?_)
        rw [show (mr : Int) + 1 = ((mr + 1 : Nat) : Int) by omega, cut_from, ← List.map_drop] at g5
        refine r_catL (f5 _ _ g4) g5 (by rw [List.length_append, List.length_map, List.length_map, List.length_map, List.length_take, List.length_drop]; show _ + 1 + _ ≤ _; omega) (fun m2 G6 hm2 f6 g6 => ?_)
        walk_at "st"
        have lt : (md.take mr).length = mr := by rw [List.length_take]; omega
        refine ⟨_, m2, md.take mr ++ bad2 :: md.drop (mr + 1), rfl, ((t2.ext f3).ext f4).ext f5 |>.ext f6, (((c9.ext f3).ext f4).ext f5).ext f6, by rw [g6, List.map_append, List.map_cons, List.append_assoc]; rfl, fun l hl => ?_, ?_, fun j hj => ?_, ?_⟩
        · rcases List.mem_append.mp hl with hl | hl
          · exact mtx l (List.mem_of_mem_take hl)
          · rcases List.mem_cons.mp hl with rfl | hl
            · exact hbad2.tx
            · exact mtx l (List.mem_of_mem_drop hl)
        · rw [List.length_append, List.length_cons, lt, List.length_drop]
          omega
        · rw [getD_cat, lt, if_pos (by omega), getD_take (by omega)]
          exact mbef j hj
        · rw [getD_cat, lt, if_pos (by omega), getD_take (by omega)]
          exact mat
      · walk_at "st"
        exact ⟨none, m, md, rfl, s8, b8, h8, mtx, mlen, mbef, mat⟩
    · walk_at "st"
      exact ⟨none, m, md, rfl, s8, b8, h8, mtx, mlen, mbef, mat⟩
  clear h7 mtx mlen mbef mat maft
  rintro σ' H8 ⟨v5, m', md', rfl, s8, b8, h8, mtx, mlen, mbef, mat⟩
  have tx : TxR md' := .of (fun z => by rw [z] at mlen; simp at mlen; omega) mtx (by omega)
  walk_at "st"
  refine r_join (sqL h8) tx.join ?_
  walk_at "st"
  refine tx.read fun y H9 e9 d9 => ?_
  rw [lat (by omega) (by omega) (fun j hj => ⟨by omega, mbef j hj⟩) (by rw [mat]; exact hbad.bad)] at d9
  have d9 : Dp K H9 y (.tuple [.str "BadText", .int ((at_ + 1 : Nat) : Int)]) := d9
  walk_at "st"
  intro t H10 ht e10 h10
  rw [show ((at_ : Nat) : Int) + 1 = ((at_ + 1 : Nat) : Int) by omega] at h10
  refine r_otherB (e10.dp _ d9) h10 ?_
  walk_at "st"
  have L10 := e10 _ _ (e9 _ _ (b8 _ _ Lp hL))
  intro w1 H11 hw1 e11 h11
  have h11 : H11 w1 = some (.lst ([e0].map V.str)) := h11
  refine r_catL (e11 _ _ L10) h11 (by rw [List.length_map]; show _ + 1 ≤ _; omega) (fun w2 H12 hw2 e12 h12 => ?_)
  rw [← List.map_append] at h12
  have e0p : partsF e0 = none := by
    have : e0 = jn [e0] := (jn_one e0).symm
    rw [this]
    exact parts_empty (fun x hx => .inr (List.mem_singleton.mp hx)) (List.mem_singleton.mpr rfl)
  have tx2 : TxR (ls ++ [e0]) := .of (by simp) (fun l hl => by
    rcases List.mem_append.mp hl with hl | hl
    · exact ltx l hl
    · rw [List.mem_singleton.mp hl]; exact ⟨fun c hc => (by cases hc), by decide⟩) (by rw [List.length_append]; show _ + 1 ≤ _; omega)
  walk_at "st"
  refine r_join (sqL h12) tx2.join ?_
  walk_at "st"
  refine tx2.read fun y2 H13 e13 d13 => ?_
  rw [lat (i := ls.length) (by rw [List.length_append]; show _ + 1 ≤ _; omega) (by rw [List.length_append]; show _ < _ + 1; omega) (fun j hj => ⟨hj, by rw [List.getD_eq_getElem?_getD, List.getElem?_append_left hj, List.getD_eq_getElem?_getD]⟩) (noneL_parts (by rw [List.getD_eq_getElem?_getD, List.getElem?_append_right (Nat.le_refl _), Nat.sub_self]; exact e0p))] at d13
  have d13 : Dp K H13 y2 (.tuple [.str "BadText", .int ((ls.length + 1 : Nat) : Int)]) := d13
  walk_at "st"
  have L13 := e13 _ _ (e12 _ _ (e11 _ _ L10))
  refine r_lenL (sqL L13) (n := (ls.length : Nat)) (by rw [List.length_map]) ?_
  walk_at "st"
  intro t2 H14 ht2 e14 h14
  rw [show ((ls.length : Nat) : Int) + 1 = ((ls.length + 1 : Nat) : Int) by omega] at h14
  refine r_sameB (e14.dp _ d13) h14 ?_
  walk_at "st"
  refine readE fun y3 H15 e15 d15 => ?_
  walk_at "st"
  intro t3 H16 ht3 e16 h16
  refine r_sameB (n := ((0 + 1 : Nat) : Int)) (e16.dp _ d15) h16 ?_
  walk_at "st"
  exact k _ (((((((s8.ext e9).ext e10).ext e11).ext e12).ext e13).ext e14).ext e15 |>.ext e16) ((((((((b8.ext e9).ext e10).ext e11).ext e12).ext e13).ext e14).ext e15).ext e16)

end
end K35
set_option maxRecDepth 100000
set_option maxHeartbeats 4000000
namespace K35
open PySem PySem.Spec PyProof.Rows L2 L3
local macro_rules | `(tactic| walk_at "s1") => `(tactic| first
  | with_reducible refine r_seq ?_
  | with_reducible refine r_asgN ?_
  | with_reducible refine r_ret ?_
  | with_reducible refine r_next ?_
  | ((with_reducible refine' r_var ?hv ?_); (case hv => exact rfl))
  | with_reducible refine r_c ?_
  | with_reducible refine r_op ?_
  | with_reducible refine r_cons ?_
  | with_reducible refine r_nil ?_
  | with_reducible refine r_plusI ?_
  | with_reducible refine r_I0 ?_
  | with_reducible refine r_test ?_
  | with_reducible refine r_bl ?_
  | with_reducible refine r_ifS ?_
  | with_reducible refine r_cb ?_
  | with_reducible refine r_callS ?_
  | with_reducible refine r_and ?_
  | with_reducible refine r_or ?_
  | with_reducible refine r_not ?_
  | with_reducible refine r_B ?_
  | ((with_reducible refine' r_aug ?hv ?_); (case hv => exact rfl))
  | with_reducible refine r_augS ?_
  | with_reducible refine r_ipI ?_
  | with_reducible refine r_asg ?_
  | with_reducible refine r_sub ?_
  | with_reducible refine r_brk ?_
  | with_reducible refine r_isN1 ?_
  | with_reducible refine r_notN1 ?_
  | with_reducible refine r_intI ?_
  | with_reducible refine r_abs ?_
  | with_reducible refine r_min ?_
  | with_reducible refine r_max ?_
  | ((with_reducible refine' r_mod ?hz ?_); (case hz => omega))
  | ((with_reducible refine' r_pow ?hz ?_); (case hz => exact ⟨by decide, by decide, by decide⟩))
  | ((with_reducible refine' r_rg1 ?hz ?_); (case hz => omega))
  | ((with_reducible refine' r_rg2 ?hz ?_); (case hz => omega))
  | ((with_reducible refine' r_newL ?hz ?_); (case hz => exact Nat.le_of_ble_eq_true rfl))
  | ((with_reducible refine' r_newT ?hz ?_); (case hz => exact Nat.le_of_ble_eq_true rfl))
  | with_reducible refine r_for ?_
  | with_reducible refine r_lc ?_
  | with_reducible refine r_iR1 ?_
  | with_reducible refine r_iR2 ?_
  | with_reducible refine r_iL ?_
  | with_reducible refine r_iT ?_
  | with_reducible refine r_gname ?_
  | with_reducible refine r_gcons ?_
  | with_reducible refine r_gnil ?_
  | with_reducible refine r_yes ?_
  | with_reducible refine r_mkO ?_
  | with_reducible refine r_cont ?_
  | with_reducible refine r_drop ?_
  | with_reducible refine r_retN ?_
  | with_reducible refine r_ifC ?_
  | with_reducible refine r_ifI ?_
  | with_reducible refine r_if ?_
  | with_reducible refine r_un ?_
  | with_reducible refine r_neg ?_
  | with_reducible refine r_andV ?_
  | with_reducible refine r_orV ?_
  | with_reducible refine r_notV ?_
  | with_reducible refine r_tup ?_
  | with_reducible refine r_lst ?_
  | with_reducible refine r_bm ?_
  | with_reducible refine r_bm0 ?_
  | with_reducible refine r_sl ?_
  | with_reducible refine r_chain ?_
  | with_reducible refine r_listDn ?_
  | with_reducible refine r_listRg2 ?_
  | with_reducible refine r_listRg1 ?_
  | with_reducible refine r_revL ?_
  | with_reducible refine r_noPart ?_
  | with_reducible refine r_meth ?_
  | with_reducible refine r_methE ?_
  | with_reducible refine r_js ?_
  | with_reducible refine r_jsC ?_
  | with_reducible refine r_jsN ?_
  | with_reducible refine r_fmt ?_
  | with_reducible refine r_fld ?_
  | with_reducible refine r_sfld ?_
  | with_reducible refine r_make ?_
  | with_reducible refine r_m1 ?_
  | with_reducible refine r_m1s ?_
  | with_reducible refine r_iS ?_
  | with_reducible refine r_iE ?_
  | with_reducible refine r_si ?_
  | with_reducible refine r_strS ?_
  | with_reducible refine r_dgt ?_
  | with_reducible refine r_din ?_
  | with_reducible refine r_dnin ?_
  | with_reducible refine r_dput ?_
  | with_reducible refine r_dnew ?_
  | with_reducible refine r_disp1 ?_
  | with_reducible refine r_lenSet ?_
  | with_reducible refine r_get2 ?_
  | with_reducible refine r_get1 ?_
  | with_reducible refine r_daug ?_
  | with_reducible refine r_iR3 ?_
  | with_reducible refine r_prC ?_
  | with_reducible refine r_prN ?_
  | with_reducible refine r_part ?_
  | with_reducible refine r_int ?_
  | ((with_reducible refine' r_sameS ?hs ?_); (case hs => exact rfl))
  | ((with_reducible refine' r_otherS ?hs ?_); (case hs => exact rfl))
  | with_reducible refine ite_t ?_
  | with_reducible refine ite_f ?_
  | with_reducible refine ite_nt ?_
  | with_reducible refine ite_nf ?_)
local macro_rules | `(tactic| walk_at "st") => `(tactic| repeat (walk_at "s1"))
local macro_rules | `(tactic| walk_at "su") => `(tactic| first
  | with_reducible refine r_seq ?_
  | with_reducible refine r_asgN ?_
  | with_reducible refine r_ret ?_
  | with_reducible refine r_next ?_
  | ((with_reducible refine' r_var ?hv ?_); (case hv => exact rfl))
  | with_reducible refine r_c ?_
  | with_reducible refine r_op ?_
  | with_reducible refine r_cons ?_
  | with_reducible refine r_nil ?_
  | with_reducible refine r_plusI ?_
  | with_reducible refine r_I0 ?_
  | with_reducible refine r_test ?_
  | with_reducible refine r_bl ?_
  | with_reducible refine r_cb ?_
  | with_reducible refine r_callS ?_
  | with_reducible refine r_and ?_
  | with_reducible refine r_or ?_
  | with_reducible refine r_not ?_
  | with_reducible refine r_B ?_
  | ((with_reducible refine' r_aug ?hv ?_); (case hv => exact rfl))
  | with_reducible refine r_augS ?_
  | with_reducible refine r_ipI ?_
  | with_reducible refine r_asg ?_
  | with_reducible refine r_sub ?_
  | with_reducible refine r_brk ?_
  | with_reducible refine r_isN1 ?_
  | with_reducible refine r_notN1 ?_
  | with_reducible refine r_intI ?_
  | with_reducible refine r_abs ?_
  | with_reducible refine r_min ?_
  | with_reducible refine r_max ?_
  | ((with_reducible refine' r_mod ?hz ?_); (case hz => omega))
  | ((with_reducible refine' r_pow ?hz ?_); (case hz => exact ⟨by decide, by decide, by decide⟩))
  | ((with_reducible refine' r_rg1 ?hz ?_); (case hz => omega))
  | ((with_reducible refine' r_rg2 ?hz ?_); (case hz => omega))
  | ((with_reducible refine' r_newL ?hz ?_); (case hz => exact Nat.le_of_ble_eq_true rfl))
  | ((with_reducible refine' r_newT ?hz ?_); (case hz => exact Nat.le_of_ble_eq_true rfl))
  | with_reducible refine r_for ?_
  | with_reducible refine r_lc ?_
  | with_reducible refine r_iR1 ?_
  | with_reducible refine r_iR2 ?_
  | with_reducible refine r_iL ?_
  | with_reducible refine r_iT ?_
  | with_reducible refine r_gname ?_
  | with_reducible refine r_gcons ?_
  | with_reducible refine r_gnil ?_
  | with_reducible refine r_yes ?_
  | with_reducible refine r_mkO ?_
  | with_reducible refine r_cont ?_
  | with_reducible refine r_drop ?_
  | with_reducible refine r_retN ?_
  | with_reducible refine r_ifC ?_
  | with_reducible refine r_ifI ?_
  | with_reducible refine r_if ?_
  | with_reducible refine r_un ?_
  | with_reducible refine r_neg ?_
  | with_reducible refine r_andV ?_
  | with_reducible refine r_orV ?_
  | with_reducible refine r_notV ?_
  | with_reducible refine r_tup ?_
  | with_reducible refine r_lst ?_
  | with_reducible refine r_bm ?_
  | with_reducible refine r_bm0 ?_
  | with_reducible refine r_sl ?_
  | with_reducible refine r_chain ?_
  | with_reducible refine r_listDn ?_
  | with_reducible refine r_listRg2 ?_
  | with_reducible refine r_listRg1 ?_
  | with_reducible refine r_revL ?_
  | with_reducible refine r_noPart ?_
  | with_reducible refine r_meth ?_
  | with_reducible refine r_methE ?_
  | with_reducible refine r_js ?_
  | with_reducible refine r_jsC ?_
  | with_reducible refine r_jsN ?_
  | with_reducible refine r_fmt ?_
  | with_reducible refine r_fld ?_
  | with_reducible refine r_sfld ?_
  | with_reducible refine r_make ?_
  | with_reducible refine r_m1 ?_
  | with_reducible refine r_m1s ?_
  | with_reducible refine r_iS ?_
  | with_reducible refine r_iE ?_
  | with_reducible refine r_si ?_
  | with_reducible refine r_strS ?_
  | with_reducible refine r_dgt ?_
  | with_reducible refine r_din ?_
  | with_reducible refine r_dnin ?_
  | with_reducible refine r_dput ?_
  | with_reducible refine r_dnew ?_
  | with_reducible refine r_disp1 ?_
  | with_reducible refine r_lenSet ?_
  | with_reducible refine r_get2 ?_
  | with_reducible refine r_get1 ?_
  | with_reducible refine r_daug ?_
  | with_reducible refine r_iR3 ?_
  | with_reducible refine r_prC ?_
  | with_reducible refine r_prN ?_
  | with_reducible refine r_part ?_
  | with_reducible refine r_int ?_
  | ((with_reducible refine' r_sameS ?hs ?_); (case hs => exact rfl))
  | ((with_reducible refine' r_otherS ?hs ?_); (case hs => exact rfl))
  | with_reducible refine ite_t ?_
  | with_reducible refine ite_f ?_
  | with_reducible refine ite_nt ?_
  | with_reducible refine ite_nf ?_)
local macro_rules | `(tactic| walk_at "sv") => `(tactic| repeat (walk_at "su"))

section
variable {P : Program} {w : World} {K : PySem.W.Frag} {mg : Str → Option Value} {base : Heap}

/-! ### data that is written down -/
section
variable {S : Addr → Prop} {σ : L2.St} {H H' : Hp} {te : TE} {tt : TA} {d : PyData} {ds : List PyData} {x : V} {xs : List V}
theorem Nw.ext (e : Ext H H') (h : Nw S H x d) : Nw S H' x d := h.keep (fun a o s q => ⟨e _ _ q, s⟩) _
theorem Nws.ext (e : Ext H H') (h : Nws S H xs ds) : Nws S H' xs ds := h.keep (fun a o s q => ⟨e _ _ q, s⟩) _
def DV (S : Addr → Prop) (te : TE) (σ : L2.St) (H : Hp) (d : PyData) : Prop := ∀ H1, Ext H H1 → ∀ Q : VK, (∀ x H', Ext H1 H' → Nw S H' x d → Q x H') → te σ H1 Q
def DA (S : Addr → Prop) (ta : TA) (σ : L2.St) (H : Hp) (ds : List PyData) : Prop := ∀ H1, Ext H H1 → ∀ Q : List V → Hp → Prop, (∀ xs H', Ext H1 H' → Nws S H' xs ds → Q xs H') → ta σ H1 Q
theorem DA.nil : DA S tNil σ H [] := fun H1 e Q k => k [] H1 .rfl .nil
theorem DA.cons (ha : DV S te σ H d) (ht : DA S tt σ H ds) : DA S (tCons te tt) σ H (d :: ds) := fun H1 e1 Q k =>
  ha H1 e1 _ fun x H2 e2 h2 => ht H2 (e1.trans e2) _ fun xs H3 e3 h3 => k (x :: xs) H3 (e2.trans e3) (.cons (Nw.ext e3 h2) h3)
theorem DV.tup (hS : ∀ a, H a = none → S a) (hl : ds.length ≤ 1000) (h : DA S tt σ H ds) : DV S (tTup tt) σ H (.tuple ds) := fun H1 e1 Q k =>
  h H1 e1 _ fun xs H2 e2 h2 => show NewT xs H2 Q from r_newT (by rw [h2.len]; omega) fun p H3 hp e3 h3 => k _ H3 (e2.trans e3) (.tup (hS _ (e1.none (e2.none hp))) h3 (Nws.ext e3 h2))
theorem DV.lst (hS : ∀ a, H a = none → S a) (hl : ds.length ≤ 1000) (h : DA S tt σ H ds) : DV S (tLst tt) σ H (.list ds) := fun H1 e1 Q k =>
  h H1 e1 _ fun xs H2 e2 h2 => show NewL xs H2 Q from r_newL (by rw [h2.len]; omega) fun p H3 hp e3 h3 => k _ H3 (e2.trans e3) (.lst (hS _ (e1.none (e2.none hp))) h3 (Nws.ext e3 h2))
theorem DV.non : DV S (tC .non) σ H .none := fun H1 _ Q k => k _ H1 .rfl .non
theorem DV.int {i : Int} : DV S (tC (.int i)) σ H (.int i) := fun H1 _ Q k => k _ H1 .rfl (.int i)
theorem DV.str {i : Str} : DV S (tC (.str i)) σ H (.str i) := fun H1 _ Q k => k _ H1 .rfl (.str i)
theorem DV.bl {i : Bool} : DV S (tC (.bl i)) σ H (.bool i) := fun H1 _ Q k => k _ H1 .rfl (.bl i)
theorem DV.neg {i : Int} : DV S (tUn (rU fun i => .int (-i)) (tC (.int i))) σ H (.int (-i)) := fun H1 _ Q k => r_neg (k _ H1 .rfl (.int _))
theorem DV.var {i : Nat} (hv : σ[i]? = some (some x)) (h : Nw S H x d) : DV S (tVar i) σ H d := fun H1 e1 Q k => ⟨x, hv, k x H1 .rfl (Nw.ext e1 h)⟩
theorem DV.runT {Q : VK} (h : DV S (tTup tt) σ H d) (k : ∀ x H', Ext H H' → Nw S H' x d → Q x H') : tTup tt σ H Q := h H .rfl Q k
theorem DA.runL {Q : VK} (h : DA S tt σ H ds) (hl : ds.length ≤ 1000) (k : ∀ p H' xs, H p = none → Ext H H' → H' p = some (.lst xs) → Nws S H' xs ds → Q (.ref p) H') : tLst tt σ H Q :=
  h H .rfl _ fun xs H2 e2 h2 => show NewL xs H2 Q from r_newL (by rw [h2.len]; omega) fun p H3 hp e3 h3 => k _ H3 xs (e2.none hp) (e2.trans e3) h3 (Nws.ext e3 h2)
end
local macro_rules | `(tactic| walk_at "dv") => `(tactic| repeat (first
  | with_reducible exact DA.nil
  | with_reducible refine DA.cons ?_ ?_
  | with_reducible refine DV.tup (by assumption) (Nat.le_of_ble_eq_true rfl) ?_
  | with_reducible refine DV.lst (by assumption) (Nat.le_of_ble_eq_true rfl) ?_
  | with_reducible exact DV.non
  | with_reducible exact DV.int
  | with_reducible exact DV.str
  | with_reducible exact DV.bl
  | with_reducible exact DV.neg
  | exact DV.var rfl (by assumption)))
def wayO : PyData := .tuple [.str "front", .list [.tuple [.str "go", .int 1]]]
def odd0 : List PyData := [.none, .str "leaf", .tuple [.str "find", .int 1], .list [.str "tie", .int 1, .int 0, .int 0], .tuple [.str "tie", .bool true, .int 0, .int 0], .tuple [.str "tie", .int 1, .int (-1), .int 0], .tuple [.str "leaf", .int 0], .tuple [.str "leaf", .int 0, .int 0, .int 0]]
def odd1 : List PyData := [.tuple [.str "leaf", .str "0", .int 0], .tuple [.str "find", .int (-1), .list [wayO]], .tuple [.str "find", .int 0, .tuple [wayO]], .tuple [.str "find", .int 0, .list [.list [.str "front", .list []]]], .tuple [.str "find", .int 0, .list [wayO, wayO, .none]]]
def odd2 : List PyData := [.tuple [.str "find", .int 0, .list [wayO, .tuple [.str "middle", .list []], wayO]], .tuple [.str "find", .int 0, .list [.tuple [.str "front", .tuple []]]], .tuple [.str "find", .int 0, .list [.tuple [.str "end"]]], .tuple [.str "step", .int 0, .list [wayO]]]
def st0 : List PyData := [.tuple [.str "go"], .tuple [.str "go", .str "1"], .tuple [.str "go", .int 1, .int 1], .tuple [.str "head", .int 0, .int 2], .tuple [.str "head", .int (-1), .int 1], .tuple [.str "head", .int 0, .int 0], .tuple [.str "tail", .int 0, .int 1], .tuple [.str "tail", .int 1, .bool true]]
def st1 : List PyData := [.tuple [.str "here", .int 0], .tuple [.str "here", .none, .int 1], .list [.str "go", .int 1], .tuple [.str "there", .int 0, .int 1], .tuple [.str "here", .int 1, .int (-2)], .int 7]
def oddS (s : PyData) : PyData := .tuple [.str "find", .int 0, .list [wayO, .tuple [.str "end", .list [.tuple [.str "go", .int 0], s]], wayO]]
def oddA : List PyData := odd0 ++ odd1 ++ odd2 ++ (st0 ++ st1).map oddS
theorem odd_rows : oddA.all (fun d => !rowB d) = true := by decide +kernel
def smB : Nat → PyData → Bool
  | 0, _ => false
  | n + 1, d => decide ((itemsD d).length ≤ 100000) && (itemsD d).all (smB n)
theorem smB_ok : ∀ {n : Nat} {d : PyData}, smB n d = true → smallD n d
  | 0, _, h => Bool.noConfusion h
  | n + 1, d, h => by
    obtain ⟨h1, h2⟩ := (Bool.and_eq_true_iff.mp h)
    exact ⟨of_decide_eq_true h1, fun e he => smB_ok (List.all_eq_true.mp h2 e he)⟩
theorem odd_small : oddA.all (smB 6) = true := by decide +kernel
theorem odd_len : oddA.length = 31 := rfl
theorem nw_tupE {S : Addr → Prop} {H : Hp} {x : V} {ds : List PyData} (h : Nw S H x (.tuple ds)) : ∃ a xs, x = .ref a ∧ S a ∧ H a = some (.tup xs) ∧ Nws S H xs ds := by
  cases h with
  | tup s e hs => exact ⟨_, _, rfl, s, e, hs⟩
def spOdd (K : PySem.W.Frag) : Sp := fun vs H Q _ => ∃ p : Addr, vs = [.ref p] ∧ Src H p ∧ ∀ x d H', Src H' p → But p H H' → Nw (fun b => b ≠ p) H' x d → rowB d = false → smallD 6 d → Q x H'
theorem sc__law_odd_row : FnScope ["source", "way", "menu", "steps", "step"] ["source"] (defScope s__law_odd_row) := ⟨rfl, rfl, rfl, by decide +kernel, rfl, by decide +kernel, by decide +kernel⟩
theorem ok__law_odd_row (T : Txt w K mg) : CalG P w K mg base 3 "_law_odd_row" ["source"] (spOdd K) := by
  have c__law_pick := ok_law_pick (P := P) (base := base) T
  refine calG_of T.g__law_odd_row T.d__law_odd_row sc__law_odd_row (fun _ _ _ _ _ _ _ us hl => match us, hl with | [_], _ => rfl) (fun vs H Q E h => by obtain ⟨_, rfl, _⟩ := h; rfl) (fun cdv A outer s H vs Q E hr h => ?_)
  have nd := sc__law_odd_row.nd
  have hu := hu64 hr
  obtain ⟨p, rfl, sp, k⟩ := h
  have hS0 : ∀ H1, Ext H H1 → ∀ a, H1 a = none → a ≠ p := fun H1 e a ha z => by
    have := (src_ne (sp.ext e) ha)
    exact this z.symm
  refine ⟨_, (pss_cons (ps_set (i := 1) nd rfl (Or.inr rfl) (pe_tup (pa_cons pe_str (pa_cons (pe_lst (pa_cons (pe_tup (pa_cons pe_str (pa_cons pe_int pa_nil))) pa_nil)) pa_nil))))
        (pss_cons (ps_set (i := 2) nd rfl (Or.inl rfl) (pe_lst (pa_cons pe_non (pa_cons pe_str (pa_cons (pe_tup (pa_cons pe_str (pa_cons pe_int pa_nil))) (pa_cons (pe_lst (pa_cons pe_str (pa_cons pe_int (pa_cons pe_int (pa_cons pe_int pa_nil))))) (pa_cons (pe_tup (pa_cons pe_str (pa_cons pe_bl (pa_cons pe_int (pa_cons pe_int pa_nil))))) (pa_cons (pe_tup (pa_cons pe_str (pa_cons pe_int (pa_cons (pe_un un_neg pe_int) (pa_cons pe_int pa_nil))))) (pa_cons (pe_tup (pa_cons pe_str (pa_cons pe_int pa_nil))) (pa_cons (pe_tup (pa_cons pe_str (pa_cons pe_int (pa_cons pe_int (pa_cons pe_int pa_nil))))) pa_nil))))))))))
        (pss_cons (ps_set (i := 2) nd rfl (Or.inl rfl) (pe_op (plusK (K := K)) (pv 2) (pe_lst (pa_cons (pe_tup (pa_cons pe_str (pa_cons pe_str (pa_cons pe_int pa_nil)))) (pa_cons (pe_tup (pa_cons pe_str (pa_cons (pe_un un_neg pe_int) (pa_cons (pe_lst (pa_cons (pv 1) pa_nil)) pa_nil)))) (pa_cons (pe_tup (pa_cons pe_str (pa_cons pe_int (pa_cons (pe_tup (pa_cons (pv 1) pa_nil)) pa_nil)))) (pa_cons (pe_tup (pa_cons pe_str (pa_cons pe_int (pa_cons (pe_lst (pa_cons (pe_lst (pa_cons pe_str (pa_cons (pe_lst pa_nil) pa_nil))) pa_nil)) pa_nil)))) (pa_cons (pe_tup (pa_cons pe_str (pa_cons pe_int (pa_cons (pe_lst (pa_cons (pv 1) (pa_cons (pv 1) (pa_cons pe_non pa_nil)))) pa_nil)))) pa_nil))))))))
        (pss_cons (ps_set (i := 2) nd rfl (Or.inl rfl) (pe_op (plusK (K := K)) (pv 2) (pe_lst (pa_cons (pe_tup (pa_cons pe_str (pa_cons pe_int (pa_cons (pe_lst (pa_cons (pv 1) (pa_cons (pe_tup (pa_cons pe_str (pa_cons (pe_lst pa_nil) pa_nil))) (pa_cons (pv 1) pa_nil)))) pa_nil)))) (pa_cons (pe_tup (pa_cons pe_str (pa_cons pe_int (pa_cons (pe_lst (pa_cons (pe_tup (pa_cons pe_str (pa_cons (pe_tup pa_nil) pa_nil))) pa_nil)) pa_nil)))) (pa_cons (pe_tup (pa_cons pe_str (pa_cons pe_int (pa_cons (pe_lst (pa_cons (pe_tup (pa_cons pe_str pa_nil)) pa_nil)) pa_nil)))) (pa_cons (pe_tup (pa_cons pe_str (pa_cons pe_int (pa_cons (pe_lst (pa_cons (pv 1) pa_nil)) pa_nil)))) pa_nil)))))))
        (pss_cons (ps_set (i := 3) nd rfl (Or.inl rfl) (pe_lst (pa_cons (pe_tup (pa_cons pe_str pa_nil)) (pa_cons (pe_tup (pa_cons pe_str (pa_cons pe_str pa_nil))) (pa_cons (pe_tup (pa_cons pe_str (pa_cons pe_int (pa_cons pe_int pa_nil)))) (pa_cons (pe_tup (pa_cons pe_str (pa_cons pe_int (pa_cons pe_int pa_nil)))) (pa_cons (pe_tup (pa_cons pe_str (pa_cons (pe_un un_neg pe_int) (pa_cons pe_int pa_nil)))) (pa_cons (pe_tup (pa_cons pe_str (pa_cons pe_int (pa_cons pe_int pa_nil)))) (pa_cons (pe_tup (pa_cons pe_str (pa_cons pe_int (pa_cons pe_int pa_nil)))) (pa_cons (pe_tup (pa_cons pe_str (pa_cons pe_int (pa_cons pe_bl pa_nil)))) pa_nil))))))))))
        (pss_cons (ps_set (i := 3) nd rfl (Or.inl rfl) (pe_op (plusK (K := K)) (pv 3) (pe_lst (pa_cons (pe_tup (pa_cons pe_str (pa_cons pe_int pa_nil))) (pa_cons (pe_tup (pa_cons pe_str (pa_cons pe_non (pa_cons pe_int pa_nil)))) (pa_cons (pe_lst (pa_cons pe_str (pa_cons pe_int pa_nil))) (pa_cons (pe_tup (pa_cons pe_str (pa_cons pe_int (pa_cons pe_int pa_nil)))) (pa_cons (pe_tup (pa_cons pe_str (pa_cons pe_int (pa_cons (pe_un un_neg pe_int) pa_nil)))) (pa_cons pe_int pa_nil)))))))))
        (pss_cons (ps_set (i := 2) nd rfl (Or.inl rfl) (pe_op (plusK (K := K)) (pv 2) (pe_lc (own := [("step", 4)]) rfl nd (piL (K := K) (pv 3)) (blkOk_by (N := ["source", "way", "menu", "steps", "step"]) (sc := defScope s__law_odd_row) (by decide +kernel)) (fun _ _ _ _ _ => (pg_name (i := 4) nd rfl (Or.inl rfl))) (fun _ _ _ _ _ => pts_nil) (fun _ _ _ _ _ => (pe_tup (pa_cons pe_str (pa_cons pe_int (pa_cons (pe_lst (pa_cons (pv 1) (pa_cons (pe_tup (pa_cons pe_str (pa_cons (pe_lst (pa_cons (pe_tup (pa_cons pe_str (pa_cons pe_int pa_nil))) (pa_cons (pv 4) pa_nil))) pa_nil))) (pa_cons (pv 1) pa_nil)))) pa_nil))))))))
        (pss_one (ps_ret (pe_ix (ixK (K := K)) (pv 2) (pe_cal c__law_pick hr (by omega) (fun σ => L2N.passAt (L2N.takes_of rfl rfl rfl rfl) σ) (pa_cons (pv 0) (pa_cons (pe_callB (lenK (K := K)) (by rfl) T.f_len boot_len (pa_cons (pv 2) pa_nil)) pa_nil))) (fun _ _ => rfl))))))))))), ?_⟩
  have hS := hS0 _ .rfl
  refine r_seq ?_
  refine r_asgN ?_
  refine DV.runT (S := fun b => b ≠ p) (d := wayO) (by unfold wayO; walk_at "dv") fun wv H1 e1 hw => ?_
  obtain ⟨wa, wxs, rfl, Sw, hwa, nwa⟩ := nw_tupE hw
  have hS := hS0 _ e1
  refine r_seq ?_
  refine r_asgN ?_
  refine DA.runL (S := fun b => b ≠ p) (ds := odd0) (by unfold odd0; walk_at "dv") (by decide) fun m0 H2 x0 hm0 e2 h0 n0 => ?_
  have hw := Nw.ext e2 hw
  have e02 := e1.trans e2
  have hS := hS0 _ e02
  have l0 := n0.len
  rw [show odd0.length = 8 from rfl] at l0
  refine r_seq ?_
  refine r_asgN ?_
  refine r_op ?_
  refine r_var rfl ?_
  refine DA.runL (S := fun b => b ≠ p) (ds := odd1) (by unfold odd1; walk_at "dv") (by decide) fun t1 H3 x1 ht1 e3 h1 n1 => ?_
  have l1 := n1.len
  rw [show odd1.length = 5 from rfl] at l1
  refine r_catL (e3 _ _ h0) h1 (by omega) (fun m1 H4 hm1 e4 h4 => ?_)
  have n4 : Nws (fun b => b ≠ p) H4 (x0 ++ x1) (odd0 ++ odd1) := (Nws.ext (e3.trans e4) n0).append (Nws.ext e4 n1)
  have hw := Nw.ext (e3.trans e4) hw
  have e04 := (e02.trans e3).trans e4
  have hS := hS0 _ e04
  clear h0 h1 n0 n1
  refine r_seq ?_
  refine r_asgN ?_
  refine r_op ?_
  refine r_var rfl ?_
  refine DA.runL (S := fun b => b ≠ p) (ds := odd2) (by unfold odd2; walk_at "dv") (by decide) fun t2 H5 x2 ht2 e5 h5 n5 => ?_
  have l2 := n5.len
  rw [show odd2.length = 4 from rfl] at l2
  refine r_catL (e5 _ _ h4) h5 (by rw [List.length_append]; omega) (fun m2 H6 hm2 e6 h6 => ?_)
  have n6 : Nws (fun b => b ≠ p) H6 (x0 ++ x1 ++ x2) (odd0 ++ odd1 ++ odd2) := (Nws.ext (e5.trans e6) n4).append (Nws.ext e6 n5)
  have hw := Nw.ext (e5.trans e6) hw
  have e06 := (e04.trans e5).trans e6
  have hS := hS0 _ e06
  clear h4 h5 n4 n5
  have l6 : (x0 ++ x1 ++ x2).length = 17 := by rw [List.length_append, List.length_append]; omega
  generalize x0 ++ x1 ++ x2 = y6 at h6 n6 l6
  refine r_seq ?_
  refine r_asgN ?_
  refine DA.runL (S := fun b => b ≠ p) (ds := st0) (by unfold st0; walk_at "dv") (by decide) fun s0 H7 z0 hs0 e7 h7 n7 => ?_
  have hw := Nw.ext e7 hw
  have e07 := e06.trans e7
  have hS := hS0 _ e07
  have l7 := n7.len
  rw [show st0.length = 8 from rfl] at l7
  refine r_seq ?_
  refine r_asgN ?_
  refine r_op ?_
  refine r_var rfl ?_
  refine DA.runL (S := fun b => b ≠ p) (ds := st1) (by unfold st1; walk_at "dv") (by decide) fun t3 H8 z1 ht3 e8 h8 n8 => ?_
  have l8 := n8.len
  rw [show st1.length = 6 from rfl] at l8
  refine r_catL (e8 _ _ h7) h8 (by omega) (fun s1 H9 hs1 e9 h9 => ?_)
  have n9 : Nws (fun b => b ≠ p) H9 (z0 ++ z1) (st0 ++ st1) := (Nws.ext (e8.trans e9) n7).append (Nws.ext e9 n8)
  have hw := Nw.ext (e8.trans e9) hw
  have e69 := (e7.trans e8).trans e9
  have e09 := e06.trans e69
  have l9 : (z0 ++ z1).length = 14 := by rw [List.length_append]; omega
  generalize z0 ++ z1 = zs at h9 n9 l9
  have el : (st0 ++ st1).length = 14 := rfl
  clear h7 h8 n7 n8 hS
  refine r_seq ?_
  refine r_asgN ?_
  refine r_op ?_
  refine r_var rfl ?_
  walk_at "st"
  refine r_li (sqL h9) ?_
  intro D hD
  have D9 : ∀ (a : Addr) (o : HO), H9 a = some o → a ≠ D := fun a o h z => by rw [z, hD] at h; cases h
  have Dp : D ≠ p := (src_ne (sp.ext e09) hD).symm
  refine lcW_list (fun i G => Ext H9 G ∧ ∃ ys, G D = some (.lst ys) ∧ ys.length = i ∧ Nws (fun b => b ≠ p ∧ b ≠ D) G ys (((st0 ++ st1).take i).map oddS)) ⟨.new hD, [], upd_same, rfl, .nil⟩ (fun i G _ q => sqL (q.1 _ _ h9)) ?_ ?_
  · rintro i y G hy ⟨eG, ys, hys, yl, nys⟩
    have hi : i < zs.length := (List.getElem?_eq_some_iff.mp hy).1
    have hd : (st0 ++ st1)[i]? = some ((st0 ++ st1)[i]'(by omega)) := List.getElem?_eq_getElem _
    generalize (st0 ++ st1)[i]'(by omega) = sd at hd
    obtain ⟨y', ey, nst⟩ := n9.get hd
    rw [hy] at ey
    cases ey
    have hw : Nw (fun b => b ≠ p ∧ b ≠ D) G (.ref wa) wayO := hw.keep (fun a o s q => ⟨eG _ _ q, s, D9 _ _ q⟩) _
    have hst : Nw (fun b => b ≠ p ∧ b ≠ D) G y sd := nst.keep (fun a o s q => ⟨eG _ _ q, s, D9 _ _ q⟩) _
    have hS : ∀ a, G a = none → a ≠ p ∧ a ≠ D := fun a ha => ⟨(src_ne (sp.ext (e09.trans eG)) ha).symm, fun z => by rw [z, hys] at ha; cases ha⟩
    walk_at "s1"
    refine r_lcW rfl ?_
    refine r_yes ?_
    refine ite_t ?_
    refine DV.runT (S := fun b => b ≠ p ∧ b ≠ D) (d := oddS sd) (by unfold oddS; walk_at "dv") fun u G2 eu hu2 => ?_
    refine ⟨ys, eu _ _ hys, by rw [yl, sizeLine_eq]; omega, Ext.mut (eG.trans eu) hD, ys ++ [u], upd_same, by rw [List.length_append, yl]; rfl, ?_⟩
    rw [List.take_succ, hd, List.map_append]
    have kp : ∀ (a : Addr) (o : HO), (a ≠ p ∧ a ≠ D) → G2 a = some o → upd G2 D (.lst (ys ++ [u])) a = some o ∧ (a ≠ p ∧ a ≠ D) := fun a o s q => ⟨by rw [upd_ne s.2]; exact q, s⟩
    exact ((Nws.ext eu nys).keep kp _).append (.cons (hu2.keep kp _) .nil)
  · rintro G ⟨eG, ys, hys, yl, nys⟩
    rw [l9, ← el, List.take_length] at nys
    rw [l9] at yl
    refine r_catL (eG _ _ (e69 _ _ h6)) hys (by omega) (fun m3 G2 hm3 e2' g2 => ?_)
    have nG : Nws (fun b => b ≠ p) G2 (y6 ++ ys) oddA := (Nws.ext ((e69.trans eG).trans e2') n6).append ((Nws.ext e2' nys).keep (fun a o s q => ⟨q, s.1⟩) _)
    have eA := (e09.trans eG).trans e2'
    have lA : (y6 ++ ys).length = 31 := by rw [List.length_append]; omega
    generalize y6 ++ ys = all at g2 nG lA
    walk_at "st"
    refine r_lenL (sqL g2) (n := (31 : Nat)) (by rw [lA]) ?_
    walk_at "st"
    refine ⟨p, ((31 : Nat) : Int), rfl, sp.ext eA, by decide, by decide, fun r G3 r0 r1 s3 n3 => ?_⟩
    obtain ⟨z, rfl, hz⟩ := npick r0 r1
    have m3p : m3 ≠ p := (src_ne (((sp.ext e09).ext eG)) hm3).symm
    have g3 := stay n3 m3p g2
    have hx : all[z]? = some (all[z]'(by omega)) := List.getElem?_eq_getElem _
    generalize all[z]'(by omega) = x at hx
    have hd : oddA[z]? = some (oddA[z]'(by rw [odd_len]; exact hz)) := List.getElem?_eq_getElem _
    have hmem : oddA[z]'(by rw [odd_len]; exact hz) ∈ oddA := List.getElem_mem _
    generalize oddA[z]'(by rw [odd_len]; exact hz) = d at hd hmem
    obtain ⟨x', ex, nx⟩ := nG.get hd
    rw [hx] at ex
    cases ex
    walk_at "st"
    refine r_atL (sqL g3) (atI_nat hx) ?_
    have hb := List.all_eq_true.mp odd_rows d hmem
    exact k _ d G3 s3 (((But.rfl (p := p) (H := H)).ext eA).trans (.of n3)) (nx.keep (fun a o s q => ⟨stay n3 s q, s⟩) _) (by cases hv : rowB d with | false => rfl | true => rw [hv] at hb; cases hb) (smB_ok (List.all_eq_true.mp odd_small d hmem))

end
end K35
set_option maxRecDepth 100000
set_option maxHeartbeats 4000000
namespace K35
open PySem PySem.Spec PyProof.Rows L2 L3
local macro_rules | `(tactic| walk_at "s1") => `(tactic| first
  | with_reducible refine r_seq ?_
  | with_reducible refine r_asgN ?_
  | with_reducible refine r_ret ?_
  | with_reducible refine r_next ?_
  | ((with_reducible refine' r_var ?hv ?_); (case hv => exact rfl))
  | with_reducible refine r_c ?_
  | with_reducible refine r_op ?_
  | with_reducible refine r_cons ?_
  | with_reducible refine r_nil ?_
  | with_reducible refine r_plusI ?_
  | with_reducible refine r_I0 ?_
  | with_reducible refine r_test ?_
  | with_reducible refine r_bl ?_
  | with_reducible refine r_ifS ?_
  | with_reducible refine r_cb ?_
  | with_reducible refine r_callS ?_
  | with_reducible refine r_and ?_
  | with_reducible refine r_or ?_
  | with_reducible refine r_not ?_
  | with_reducible refine r_B ?_
  | ((with_reducible refine' r_aug ?hv ?_); (case hv => exact rfl))
  | with_reducible refine r_augS ?_
  | with_reducible refine r_ipI ?_
  | with_reducible refine r_asg ?_
  | with_reducible refine r_sub ?_
  | with_reducible refine r_brk ?_
  | with_reducible refine r_isN1 ?_
  | with_reducible refine r_notN1 ?_
  | with_reducible refine r_intI ?_
  | with_reducible refine r_abs ?_
  | with_reducible refine r_min ?_
  | with_reducible refine r_max ?_
  | ((with_reducible refine' r_mod ?hz ?_); (case hz => omega))
  | ((with_reducible refine' r_pow ?hz ?_); (case hz => exact ⟨by decide, by decide, by decide⟩))
  | ((with_reducible refine' r_rg1 ?hz ?_); (case hz => omega))
  | ((with_reducible refine' r_rg2 ?hz ?_); (case hz => omega))
  | ((with_reducible refine' r_newL ?hz ?_); (case hz => exact Nat.le_of_ble_eq_true rfl))
  | ((with_reducible refine' r_newT ?hz ?_); (case hz => exact Nat.le_of_ble_eq_true rfl))
  | with_reducible refine r_for ?_
  | with_reducible refine r_lc ?_
  | with_reducible refine r_iR1 ?_
  | with_reducible refine r_iR2 ?_
  | with_reducible refine r_iL ?_
  | with_reducible refine r_iT ?_
  | with_reducible refine r_gname ?_
  | with_reducible refine r_gcons ?_
  | with_reducible refine r_gnil ?_
  | with_reducible refine r_yes ?_
  | with_reducible refine r_mkO ?_
  | with_reducible refine r_cont ?_
  | with_reducible refine r_drop ?_
  | with_reducible refine r_retN ?_
  | with_reducible refine r_ifC ?_
  | with_reducible refine r_ifI ?_
  | with_reducible refine r_if ?_
  | with_reducible refine r_un ?_
  | with_reducible refine r_neg ?_
  | with_reducible refine r_andV ?_
  | with_reducible refine r_orV ?_
  | with_reducible refine r_notV ?_
  | with_reducible refine r_tup ?_
  | with_reducible refine r_lst ?_
  | with_reducible refine r_bm ?_
  | with_reducible refine r_bm0 ?_
  | with_reducible refine r_sl ?_
  | with_reducible refine r_chain ?_
  | with_reducible refine r_listDn ?_
  | with_reducible refine r_listRg2 ?_
  | with_reducible refine r_listRg1 ?_
  | with_reducible refine r_revL ?_
  | with_reducible refine r_noPart ?_
  | with_reducible refine r_meth ?_
  | with_reducible refine r_methE ?_
  | with_reducible refine r_js ?_
  | with_reducible refine r_jsC ?_
  | with_reducible refine r_jsN ?_
  | with_reducible refine r_fmt ?_
  | with_reducible refine r_fld ?_
  | with_reducible refine r_sfld ?_
  | with_reducible refine r_make ?_
  | with_reducible refine r_m1 ?_
  | with_reducible refine r_m1s ?_
  | with_reducible refine r_iS ?_
  | with_reducible refine r_iE ?_
  | with_reducible refine r_si ?_
  | with_reducible refine r_strS ?_
  | with_reducible refine r_dgt ?_
  | with_reducible refine r_din ?_
  | with_reducible refine r_dnin ?_
  | with_reducible refine r_dput ?_
  | with_reducible refine r_dnew ?_
  | with_reducible refine r_disp1 ?_
  | with_reducible refine r_lenSet ?_
  | with_reducible refine r_get2 ?_
  | with_reducible refine r_get1 ?_
  | with_reducible refine r_daug ?_
  | with_reducible refine r_iR3 ?_
  | with_reducible refine r_prC ?_
  | with_reducible refine r_prN ?_
  | with_reducible refine r_part ?_
  | with_reducible refine r_int ?_
  | ((with_reducible refine' r_sameS ?hs ?_); (case hs => exact rfl))
  | ((with_reducible refine' r_otherS ?hs ?_); (case hs => exact rfl))
  | with_reducible refine ite_t ?_
  | with_reducible refine ite_f ?_
  | with_reducible refine ite_nt ?_
  | with_reducible refine ite_nf ?_)
local macro_rules | `(tactic| walk_at "st") => `(tactic| repeat (walk_at "s1"))
local macro_rules | `(tactic| walk_at "su") => `(tactic| first
  | with_reducible refine r_seq ?_
  | with_reducible refine r_asgN ?_
  | with_reducible refine r_ret ?_
  | with_reducible refine r_next ?_
  | ((with_reducible refine' r_var ?hv ?_); (case hv => exact rfl))
  | with_reducible refine r_c ?_
  | with_reducible refine r_op ?_
  | with_reducible refine r_cons ?_
  | with_reducible refine r_nil ?_
  | with_reducible refine r_plusI ?_
  | with_reducible refine r_I0 ?_
  | with_reducible refine r_test ?_
  | with_reducible refine r_bl ?_
  | with_reducible refine r_cb ?_
  | with_reducible refine r_callS ?_
  | with_reducible refine r_and ?_
  | with_reducible refine r_or ?_
  | with_reducible refine r_not ?_
  | with_reducible refine r_B ?_
  | ((with_reducible refine' r_aug ?hv ?_); (case hv => exact rfl))
  | with_reducible refine r_augS ?_
  | with_reducible refine r_ipI ?_
  | with_reducible refine r_asg ?_
  | with_reducible refine r_sub ?_
  | with_reducible refine r_brk ?_
  | with_reducible refine r_isN1 ?_
  | with_reducible refine r_notN1 ?_
  | with_reducible refine r_intI ?_
  | with_reducible refine r_abs ?_
  | with_reducible refine r_min ?_
  | with_reducible refine r_max ?_
  | ((with_reducible refine' r_mod ?hz ?_); (case hz => omega))
  | ((with_reducible refine' r_pow ?hz ?_); (case hz => exact ⟨by decide, by decide, by decide⟩))
  | ((with_reducible refine' r_rg1 ?hz ?_); (case hz => omega))
  | ((with_reducible refine' r_rg2 ?hz ?_); (case hz => omega))
  | ((with_reducible refine' r_newL ?hz ?_); (case hz => exact Nat.le_of_ble_eq_true rfl))
  | ((with_reducible refine' r_newT ?hz ?_); (case hz => exact Nat.le_of_ble_eq_true rfl))
  | with_reducible refine r_for ?_
  | with_reducible refine r_lc ?_
  | with_reducible refine r_iR1 ?_
  | with_reducible refine r_iR2 ?_
  | with_reducible refine r_iL ?_
  | with_reducible refine r_iT ?_
  | with_reducible refine r_gname ?_
  | with_reducible refine r_gcons ?_
  | with_reducible refine r_gnil ?_
  | with_reducible refine r_yes ?_
  | with_reducible refine r_mkO ?_
  | with_reducible refine r_cont ?_
  | with_reducible refine r_drop ?_
  | with_reducible refine r_retN ?_
  | with_reducible refine r_ifC ?_
  | with_reducible refine r_ifI ?_
  | with_reducible refine r_if ?_
  | with_reducible refine r_un ?_
  | with_reducible refine r_neg ?_
  | with_reducible refine r_andV ?_
  | with_reducible refine r_orV ?_
  | with_reducible refine r_notV ?_
  | with_reducible refine r_tup ?_
  | with_reducible refine r_lst ?_
  | with_reducible refine r_bm ?_
  | with_reducible refine r_bm0 ?_
  | with_reducible refine r_sl ?_
  | with_reducible refine r_chain ?_
  | with_reducible refine r_listDn ?_
  | with_reducible refine r_listRg2 ?_
  | with_reducible refine r_listRg1 ?_
  | with_reducible refine r_revL ?_
  | with_reducible refine r_noPart ?_
  | with_reducible refine r_meth ?_
  | with_reducible refine r_methE ?_
  | with_reducible refine r_js ?_
  | with_reducible refine r_jsC ?_
  | with_reducible refine r_jsN ?_
  | with_reducible refine r_fmt ?_
  | with_reducible refine r_fld ?_
  | with_reducible refine r_sfld ?_
  | with_reducible refine r_make ?_
  | with_reducible refine r_m1 ?_
  | with_reducible refine r_m1s ?_
  | with_reducible refine r_iS ?_
  | with_reducible refine r_iE ?_
  | with_reducible refine r_si ?_
  | with_reducible refine r_strS ?_
  | with_reducible refine r_dgt ?_
  | with_reducible refine r_din ?_
  | with_reducible refine r_dnin ?_
  | with_reducible refine r_dput ?_
  | with_reducible refine r_dnew ?_
  | with_reducible refine r_disp1 ?_
  | with_reducible refine r_lenSet ?_
  | with_reducible refine r_get2 ?_
  | with_reducible refine r_get1 ?_
  | with_reducible refine r_daug ?_
  | with_reducible refine r_iR3 ?_
  | with_reducible refine r_prC ?_
  | with_reducible refine r_prN ?_
  | with_reducible refine r_part ?_
  | with_reducible refine r_int ?_
  | ((with_reducible refine' r_sameS ?hs ?_); (case hs => exact rfl))
  | ((with_reducible refine' r_otherS ?hs ?_); (case hs => exact rfl))
  | with_reducible refine ite_t ?_
  | with_reducible refine ite_f ?_
  | with_reducible refine ite_nt ?_
  | with_reducible refine ite_nf ?_)
local macro_rules | `(tactic| walk_at "sv") => `(tactic| repeat (walk_at "su"))

section
variable {P : Program} {w : World} {K : PySem.W.Frag} {mg : Str → Option Value} {base : Heap}

theorem RowR.small {d : PyData} (h : RowR d) : smallD 6 d := small_row h.back (by have := h.words.2.1; omega)
theorem small_rows {n : Nat} {rows : List PyData} (h : ∀ d ∈ rows, RowR d) (hl : rows.length ≤ n) (hn : n ≤ 100000) : smallD 7 (.list rows) := small_list (by omega) fun e he => (h e he).small
theorem nws_take {S : Addr → Prop} {H : Hp} : ∀ {xs : List V} {ds : List PyData}, Nws S H xs ds → ∀ n, Nws S H (xs.take n) (ds.take n)
  | _, _, _, 0 => by rw [List.take_zero, List.take_zero]; exact .nil
  | _, _, .nil, n + 1 => .nil
  | _, _, .cons a b, n + 1 => .cons a (nws_take b n)
theorem nws_drop {S : Addr → Prop} {H : Hp} : ∀ {xs : List V} {ds : List PyData}, Nws S H xs ds → ∀ n, Nws S H (xs.drop n) (ds.drop n)
  | _, _, h, 0 => by rw [List.drop_zero, List.drop_zero]; exact h
  | _, _, .nil, n + 1 => .nil
  | _, _, .cons a b, n + 1 => nws_drop b n
theorem r_flt2 {K : PySem.W.Frag} {l : List (Str × List Str)} {x f g : Str} {a dd : Addr} {u v : V} {H : Hp} {Q : VK} {E : XK} (hx : (x, [f, g]) ∈ l) (n : f ≠ g) (hd : H dd = some (.xd [(g, v), (f, u)])) (k : ∀ q H', H q = none → Ext H H' → H' q = some (.tup [.str x, u, v]) → Q (.ref q) H') :
    spFlts K l a (.ref (He.ga K x)) (some dd) [.ref a] H Q E := ⟨(x, [f, g]), hx, dd, _, [u, v], rfl, ⟨rfl, rfl⟩, hd, by simp [List.lookup, n, beq_eq_false_iff_ne.mpr n], k⟩
theorem sh_bc (n : Int) : SeqAt.shaped (.tuple [.str "BadCode", .int n, .str "kind"]) = true ∧ (PyData.tuple [.str "BadCode", .int n, .str "kind"]).eqv (.tuple [.str "BadCode", .int n, .str "kind"]) = true := by
  have h : PyData.strOk ("BadCode" : Str) = true := by decide +kernel
  have h2 : PyData.strOk ("kind" : Str) = true := by decide +kernel
  constructor
  · simp [SeqAt.shaped, PyData.canLay0, PyData.canLayAll0, PyData.depth, PyData.depthAll, h, h2]
  · simp [PyData.eqv, PyData.eqvAll]
theorem r_sameC {K : PySem.W.Frag} {H : Hp} {Q : VK} {q t : Addr} {n : Int} (h1 : H q = some (.tup [.str "BadCode", .int n, .str "kind"])) (h2 : H t = some (.tup [.str "BadCode", .int n, .str "kind"])) (k : Q (.bl true) H) : rSame K (.ref q) (.ref t) H Q :=
  .inr ⟨_, _, .tup (sqT h1) (.cons (.str _) (.cons (.int _) (.cons (.str _) .nil))), .tup (sqT h2) (.cons (.str _) (.cons (.int _) (.cons (.str _) .nil))), (sh_bc n).1, (sh_bc n).1, by rw [(sh_bc n).2]; exact k⟩
def spNoT : Sp := fun vs H Q _ => ∃ (p L : Addr) (rows : List PyData), vs = [.ref p, .ref L] ∧ Src H p ∧ Nw (fun b => b ≠ p) H (.ref L) (.list rows) ∧ (∀ d ∈ rows, RowR d) ∧ rows.length ≤ 20 ∧ ∀ H', Src H' p → But p H H' → Q (.bl true) H'
theorem sc__law_no_text : FnScope ["source", "rows", "at", "error"] ["source", "rows"] (defScope s__law_no_text) := ⟨rfl, rfl, rfl, by decide +kernel, rfl, by decide +kernel, by decide +kernel⟩
theorem ok__law_no_text (T : Txt w K mg) : CalG P w K mg base 13 "_law_no_text" ["source", "rows"] spNoT := by
  have c__law_pick := ok_law_pick (P := P) (base := base) T
  have c__law_odd_row := ok__law_odd_row (P := P) (base := base) T
  have c_code_text := ok_code_text (P := P) (base := base) T
  have c_ReadCode_init := ok_ReadCode_init (P := P) (base := base) T
  have c_fault : FaultX P w K mg base "_law_told_fault" faultL := ok_fault T
  refine calG_of T.g__law_no_text T.d__law_no_text sc__law_no_text (fun _ _ _ _ _ _ _ us hl => match us, hl with | [_, _], _ => rfl) (fun vs H Q E h => by obtain ⟨_, _, _, rfl, _⟩ := h; rfl) (fun cdv A outer s H vs Q E hr h => ?_)
  have nd := sc__law_no_text.nd
  have hu := hu64 hr
  obtain ⟨p, L, rows, rfl, sp, nL, hR, lR, k⟩ := h
  obtain ⟨La, lxs, eL, Lp, hL, nLs⟩ := nw_lstE nL
  cases eL
  have ll := nLs.len
  refine ⟨_, (pss_cons (ps_set (i := 2) nd rfl (Or.inl rfl) (pe_cal c__law_pick hr (by omega) (fun σ => L2N.passAt (L2N.takes_of rfl rfl rfl rfl) σ) (pa_cons (pv 0) (pa_cons (pe_op (plusK (K := K)) (pe_callB (lenK (K := K)) (by rfl) T.f_len boot_len (pa_cons (pv 1) pa_nil)) pe_int) pa_nil))))
        (pss_one (ps_tryZ (i := 3) (ts := fun a cls d => tRet (tOp (rSame K) (tCallS (spFlts K faultL a cls d) (WE fun _ _ _ _ => False) (tCons (tVar 3) tNil)) (tTup (tCons (tC (.str "BadCode")) (tCons (tVar 2) (tCons (tC (.str "kind")) tNil)))))) rfl rfl nd rfl rfl ⟨rfl, by decide, Or.inl T.g_OutsideError⟩ (L2N.takes_of rfl rfl rfl rfl) (fun W z => (pss_cons (ps_expr (pe_cal c_code_text hr (by omega) (fun σ => L2N.passAt z.tk σ) (pa_cons (pe_mkGK (K := K) T.mk_ReadCode T.g_ReadCode c_ReadCode_init hr (by omega) (pa_cons (pe_op (plusK (K := K)) (pe_op (plusK (K := K)) (pe_op (plusK (K := K)) (pe_slice (slK (K := K)) (pv 1) po_none (po_some (pv 2))) (pe_lst (pa_cons (pe_cal c__law_odd_row hr (by omega) (fun σ => L2N.passAt z.tk σ) (pa_cons (pv 0) pa_nil)) pa_nil))) (pe_slice (slK (K := K)) (pv 1) (po_some (pv 2)) po_none)) (pe_lst (pa_cons pe_non pa_nil))) (pa_cons pe_int (pa_cons pe_int pa_nil)))) pa_nil)))
        (pss_one (ps_ret pe_bl)))) (fun a oe cls d pn hz hf => (pss_one (ps_ret (pe_cmpR (sameK (K := K) hu) (pe_faultX c_fault (L2H.roomH_mark (hr.mono (by omega)) _) hz (hotOf hz hf) (List.mem_cons_self) (pv 3)) (pe_tup (pa_cons pe_str (pa_cons (pv 2) (pa_cons pe_str pa_nil)))) (nomark _)))))))), ?_⟩
  have inl : (("BadCode" : Str), (["row", "what"] : List Str)) ∈ faultL := by simp [faultL]
  have ex := T.kits.exm "BadCode" (by simp [errs])
  walk_at "st"
  refine r_lenL (sqL hL) (n := (rows.length : Nat)) (by rw [ll]) ?_
  walk_at "st"
  refine ⟨p, (rows.length : Nat) + 1, rfl, sp, by omega, by omega, fun r1 H1 r10 r1m s1 n1 => ?_⟩
  obtain ⟨at_, rfl, hat⟩ := npick (m := rows.length + 1) r10 (by omega)
  have b1 : But p H H1 := .of n1
  have hL1 := b1 _ _ Lp hL
  have nL1 : Nws (fun b => b ≠ p) H1 lxs rows := nLs.keep (fun a o s z => ⟨b1 _ _ s z, s⟩) _
  walk_at "st"
  intro z
  walk_at "st"
  refine r_slL (sqL hL1) (fun x1 H2 hx1 e2 h2 => ?_)
  rw [cut_to] at h2
  walk_at "st"
  refine ⟨p, rfl, s1.ext e2, fun y d H3 s3 b23 ny hb sm => ?_⟩
  walk_at "st"
  intro l1 H4 hl1 e4 h4
  have x1p : x1 ≠ p := (src_ne s1 hx1).symm
  refine r_catL (e4 _ _ (b23 _ _ x1p h2)) h4 (by rw [List.length_take]; show _ + 1 ≤ _; omega) (fun x2 H5 hx2 e5 h5 => ?_)
  have b5 := (((b1.ext e2).trans b23).ext e4).ext e5
  have b15 : But p H1 H5 := (((But.rfl.ext e2).trans b23).ext e4).ext e5
  have s5 := (s3.ext e4).ext e5
  walk_at "st"
  refine r_slL (sqL (b5 _ _ Lp hL)) (fun x3 H6 hx3 e6 h6 => ?_)
  rw [cut_from] at h6
  refine r_catL (e6 _ _ h5) h6 (by rw [List.length_append, List.length_take, List.length_drop]; show _ + 1 + _ ≤ _; omega) (fun x4 H7 hx4 e7 h7 => ?_)
  walk_at "st"
  intro l2 H8 hl2 e8 h8
  refine r_catL (e8 _ _ h7) h8 (by rw [List.length_append, List.length_append, List.length_take, List.length_drop]; show _ + 1 + _ + 1 ≤ _; omega) (fun x5 H9 hx5 e9 h9 => ?_)
  have e59 := ((e6.trans e7).trans e8).trans e9
  have b9 := b5.ext e59
  have b19 := b15.ext e59
  have nL9 : Nws (fun b => b ≠ p) H9 lxs rows := nL1.keep (fun a o s z => ⟨b19 _ _ s z, s⟩) _
  have ny9 : Nw (fun b => b ≠ p) H9 y d := nw_ext ny ((e4.trans e5).trans e59)
  have nA : Nws (fun b => b ≠ p) H9 (lxs.take at_ ++ [y] ++ lxs.drop at_ ++ [.non]) (rows.take at_ ++ [d] ++ rows.drop at_ ++ [.none]) :=
    (((nws_take nL9 at_).append (.cons ny9 .nil)).append (nws_drop nL9 at_)).append (.cons .non .nil)
  have hT : ∀ e ∈ (rows.take at_ ++ [d] ++ rows.drop at_ ++ [PyData.none]).take at_, RowR e := fun e he => by
    rw [List.append_assoc, List.append_assoc, List.take_append_of_le_length (by rw [List.length_take]; omega)] at he
    exact hR e (List.mem_of_mem_take (List.mem_of_mem_take he))
  have hD : (rows.take at_ ++ [d] ++ rows.drop at_ ++ [PyData.none])[at_]? = some d := by
    have lt : (rows.take at_).length = at_ := by rw [List.length_take]; omega
    rw [List.append_assoc, List.append_assoc, List.getElem?_append_right (by omega), lt, Nat.sub_self]
    rfl
  have hsm : smallD 7 (.list (rows.take at_ ++ [d] ++ rows.drop at_ ++ [PyData.none])) := small_list (by rw [List.length_append, List.length_append, List.length_append, List.length_take, List.length_drop]; show _ + 1 + _ + 1 ≤ _; omega) fun e he => by
    rcases List.mem_append.mp he with he | he
    · rcases List.mem_append.mp he with he | he
      · rcases List.mem_append.mp he with he | he
        · exact (hR e (List.mem_of_mem_take he)).small
        · rw [List.mem_singleton.mp he]; exact sm
      · exact (hR e (List.mem_of_mem_drop he)).small
    · rw [List.mem_singleton.mp he]; exact small_none 5
  generalize rows.take at_ ++ [d] ++ rows.drop at_ ++ [PyData.none] = all at nA hT hD hsm
  generalize lxs.take at_ ++ [y] ++ lxs.drop at_ ++ [.non] = axs at nA h9
  walk_at "st"
  refine r_mk fun o dx H10 hoN hdN e10 ins => ?_
  refine ⟨o, dx, .ref x5, all, 1, 1, rfl, ins, e10.dp _ (.lst (sqL h9) (nA.dp _)), hsm, fun H11 m11 cAt => ⟨rfl, ?_⟩⟩
  have e11 : Ext H9 H11 := fun b ob h => m11 _ _ (ne_of_none h hoN) (e10 _ _ h)
  walk_at "st"
  refine ⟨_, o, all, 1, 1, rfl, cAt, hsm, by decide, by decide, .inr ⟨at_, d, hT, by omega, hD, hb, fun dd H12 hdd e12 h12 => ?_⟩⟩
  refine r_wAs ex fun a ha => ?_
  walk_at "st"
  refine r_flt2 inl (by decide) h12 fun q H13 hq e13 h13 => ?_
  walk_at "st"
  intro t H14 ht e14 h14
  refine r_sameC (e14 _ _ h13) h14 ?_
  walk_at "st"
  exact k _ (s5.ext ((((e59.trans e11).trans e12).trans e13).trans e14)) (b5.ext ((((e59.trans e11).trans e12).trans e13).trans e14))

end
end K35
set_option maxRecDepth 100000
set_option maxHeartbeats 4000000
namespace K35
open PySem PySem.Spec PyProof.Rows L2 L3
local macro_rules | `(tactic| walk_at "s1") => `(tactic| first
  | with_reducible refine r_seq ?_
  | with_reducible refine r_asgN ?_
  | with_reducible refine r_ret ?_
  | with_reducible refine r_next ?_
  | ((with_reducible refine' r_var ?hv ?_); (case hv => exact rfl))
  | with_reducible refine r_c ?_
  | with_reducible refine r_op ?_
  | with_reducible refine r_cons ?_
  | with_reducible refine r_nil ?_
  | with_reducible refine r_plusI ?_
  | with_reducible refine r_I0 ?_
  | with_reducible refine r_test ?_
  | with_reducible refine r_bl ?_
  | with_reducible refine r_ifS ?_
  | with_reducible refine r_cb ?_
  | with_reducible refine r_callS ?_
  | with_reducible refine r_and ?_
  | with_reducible refine r_or ?_
  | with_reducible refine r_not ?_
  | with_reducible refine r_B ?_
  | ((with_reducible refine' r_aug ?hv ?_); (case hv => exact rfl))
  | with_reducible refine r_augS ?_
  | with_reducible refine r_ipI ?_
  | with_reducible refine r_asg ?_
  | with_reducible refine r_sub ?_
  | with_reducible refine r_brk ?_
  | with_reducible refine r_isN1 ?_
  | with_reducible refine r_notN1 ?_
  | with_reducible refine r_intI ?_
  | with_reducible refine r_abs ?_
  | with_reducible refine r_min ?_
  | with_reducible refine r_max ?_
  | ((with_reducible refine' r_mod ?hz ?_); (case hz => omega))
  | ((with_reducible refine' r_pow ?hz ?_); (case hz => exact ⟨by decide, by decide, by decide⟩))
  | ((with_reducible refine' r_rg1 ?hz ?_); (case hz => omega))
  | ((with_reducible refine' r_rg2 ?hz ?_); (case hz => omega))
  | ((with_reducible refine' r_newL ?hz ?_); (case hz => exact Nat.le_of_ble_eq_true rfl))
  | ((with_reducible refine' r_newT ?hz ?_); (case hz => exact Nat.le_of_ble_eq_true rfl))
  | with_reducible refine r_for ?_
  | with_reducible refine r_lc ?_
  | with_reducible refine r_iR1 ?_
  | with_reducible refine r_iR2 ?_
  | with_reducible refine r_iL ?_
  | with_reducible refine r_iT ?_
  | with_reducible refine r_gname ?_
  | with_reducible refine r_gcons ?_
  | with_reducible refine r_gnil ?_
  | with_reducible refine r_yes ?_
  | with_reducible refine r_mkO ?_
  | with_reducible refine r_cont ?_
  | with_reducible refine r_drop ?_
  | with_reducible refine r_retN ?_
  | with_reducible refine r_ifC ?_
  | with_reducible refine r_ifI ?_
  | with_reducible refine r_if ?_
  | with_reducible refine r_un ?_
  | with_reducible refine r_neg ?_
  | with_reducible refine r_andV ?_
  | with_reducible refine r_orV ?_
  | with_reducible refine r_notV ?_
  | with_reducible refine r_tup ?_
  | with_reducible refine r_lst ?_
  | with_reducible refine r_bm ?_
  | with_reducible refine r_bm0 ?_
  | with_reducible refine r_sl ?_
  | with_reducible refine r_chain ?_
  | with_reducible refine r_listDn ?_
  | with_reducible refine r_listRg2 ?_
  | with_reducible refine r_listRg1 ?_
  | with_reducible refine r_revL ?_
  | with_reducible refine r_noPart ?_
  | with_reducible refine r_meth ?_
  | with_reducible refine r_methE ?_
  | with_reducible refine r_js ?_
  | with_reducible refine r_jsC ?_
  | with_reducible refine r_jsN ?_
  | with_reducible refine r_fmt ?_
  | with_reducible refine r_fld ?_
  | with_reducible refine r_sfld ?_
  | with_reducible refine r_make ?_
  | with_reducible refine r_m1 ?_
  | with_reducible refine r_m1s ?_
  | with_reducible refine r_iS ?_
  | with_reducible refine r_iE ?_
  | with_reducible refine r_si ?_
  | with_reducible refine r_strS ?_
  | with_reducible refine r_dgt ?_
  | with_reducible refine r_din ?_
  | with_reducible refine r_dnin ?_
  | with_reducible refine r_dput ?_
  | with_reducible refine r_dnew ?_
  | with_reducible refine r_disp1 ?_
  | with_reducible refine r_lenSet ?_
  | with_reducible refine r_get2 ?_
  | with_reducible refine r_get1 ?_
  | with_reducible refine r_daug ?_
  | with_reducible refine r_iR3 ?_
  | with_reducible refine r_prC ?_
  | with_reducible refine r_prN ?_
  | with_reducible refine r_part ?_
  | with_reducible refine r_int ?_
  | ((with_reducible refine' r_sameS ?hs ?_); (case hs => exact rfl))
  | ((with_reducible refine' r_otherS ?hs ?_); (case hs => exact rfl))
  | with_reducible refine ite_t ?_
  | with_reducible refine ite_f ?_
  | with_reducible refine ite_nt ?_
  | with_reducible refine ite_nf ?_)
local macro_rules | `(tactic| walk_at "st") => `(tactic| repeat (walk_at "s1"))
local macro_rules | `(tactic| walk_at "su") => `(tactic| first
  | with_reducible refine r_seq ?_
  | with_reducible refine r_asgN ?_
  | with_reducible refine r_ret ?_
  | with_reducible refine r_next ?_
  | ((with_reducible refine' r_var ?hv ?_); (case hv => exact rfl))
  | with_reducible refine r_c ?_
  | with_reducible refine r_op ?_
  | with_reducible refine r_cons ?_
  | with_reducible refine r_nil ?_
  | with_reducible refine r_plusI ?_
  | with_reducible refine r_I0 ?_
  | with_reducible refine r_test ?_
  | with_reducible refine r_bl ?_
  | with_reducible refine r_cb ?_
  | with_reducible refine r_callS ?_
  | with_reducible refine r_and ?_
  | with_reducible refine r_or ?_
  | with_reducible refine r_not ?_
  | with_reducible refine r_B ?_
  | ((with_reducible refine' r_aug ?hv ?_); (case hv => exact rfl))
  | with_reducible refine r_augS ?_
  | with_reducible refine r_ipI ?_
  | with_reducible refine r_asg ?_
  | with_reducible refine r_sub ?_
  | with_reducible refine r_brk ?_
  | with_reducible refine r_isN1 ?_
  | with_reducible refine r_notN1 ?_
  | with_reducible refine r_intI ?_
  | with_reducible refine r_abs ?_
  | with_reducible refine r_min ?_
  | with_reducible refine r_max ?_
  | ((with_reducible refine' r_mod ?hz ?_); (case hz => omega))
  | ((with_reducible refine' r_pow ?hz ?_); (case hz => exact ⟨by decide, by decide, by decide⟩))
  | ((with_reducible refine' r_rg1 ?hz ?_); (case hz => omega))
  | ((with_reducible refine' r_rg2 ?hz ?_); (case hz => omega))
  | ((with_reducible refine' r_newL ?hz ?_); (case hz => exact Nat.le_of_ble_eq_true rfl))
  | ((with_reducible refine' r_newT ?hz ?_); (case hz => exact Nat.le_of_ble_eq_true rfl))
  | with_reducible refine r_for ?_
  | with_reducible refine r_lc ?_
  | with_reducible refine r_iR1 ?_
  | with_reducible refine r_iR2 ?_
  | with_reducible refine r_iL ?_
  | with_reducible refine r_iT ?_
  | with_reducible refine r_gname ?_
  | with_reducible refine r_gcons ?_
  | with_reducible refine r_gnil ?_
  | with_reducible refine r_yes ?_
  | with_reducible refine r_mkO ?_
  | with_reducible refine r_cont ?_
  | with_reducible refine r_drop ?_
  | with_reducible refine r_retN ?_
  | with_reducible refine r_ifC ?_
  | with_reducible refine r_ifI ?_
  | with_reducible refine r_if ?_
  | with_reducible refine r_un ?_
  | with_reducible refine r_neg ?_
  | with_reducible refine r_andV ?_
  | with_reducible refine r_orV ?_
  | with_reducible refine r_notV ?_
  | with_reducible refine r_tup ?_
  | with_reducible refine r_lst ?_
  | with_reducible refine r_bm ?_
  | with_reducible refine r_bm0 ?_
  | with_reducible refine r_sl ?_
  | with_reducible refine r_chain ?_
  | with_reducible refine r_listDn ?_
  | with_reducible refine r_listRg2 ?_
  | with_reducible refine r_listRg1 ?_
  | with_reducible refine r_revL ?_
  | with_reducible refine r_noPart ?_
  | with_reducible refine r_meth ?_
  | with_reducible refine r_methE ?_
  | with_reducible refine r_js ?_
  | with_reducible refine r_jsC ?_
  | with_reducible refine r_jsN ?_
  | with_reducible refine r_fmt ?_
  | with_reducible refine r_fld ?_
  | with_reducible refine r_sfld ?_
  | with_reducible refine r_make ?_
  | with_reducible refine r_m1 ?_
  | with_reducible refine r_m1s ?_
  | with_reducible refine r_iS ?_
  | with_reducible refine r_iE ?_
  | with_reducible refine r_si ?_
  | with_reducible refine r_strS ?_
  | with_reducible refine r_dgt ?_
  | with_reducible refine r_din ?_
  | with_reducible refine r_dnin ?_
  | with_reducible refine r_dput ?_
  | with_reducible refine r_dnew ?_
  | with_reducible refine r_disp1 ?_
  | with_reducible refine r_lenSet ?_
  | with_reducible refine r_get2 ?_
  | with_reducible refine r_get1 ?_
  | with_reducible refine r_daug ?_
  | with_reducible refine r_iR3 ?_
  | with_reducible refine r_prC ?_
  | with_reducible refine r_prN ?_
  | with_reducible refine r_part ?_
  | with_reducible refine r_int ?_
  | ((with_reducible refine' r_sameS ?hs ?_); (case hs => exact rfl))
  | ((with_reducible refine' r_otherS ?hs ?_); (case hs => exact rfl))
  | with_reducible refine ite_t ?_
  | with_reducible refine ite_f ?_
  | with_reducible refine ite_nt ?_
  | with_reducible refine ite_nf ?_)
local macro_rules | `(tactic| walk_at "sv") => `(tactic| repeat (walk_at "su"))

section
variable {P : Program} {w : World} {K : PySem.W.Frag} {mg : Str → Option Value} {base : Heap}

/-! ### a text times a number -/
def rMulS : R2 := fun x y H Q => ∃ (a : Str) (k : Int), x = .str a ∧ y = .int k ∧ MulOk a k ∧ Q (.str (Txt.mul a k)) H
theorem op_mulS {X : Cx} : OpR X (binaryOp .Mult) rMulS := by
  intro pins s σ H x y u v Q I rx ry h
  obtain ⟨a, k, rfl, rfl, ok, q⟩ := h
  obtain ⟨t, rfl⟩ := rx
  obtain ⟨t2, rfl⟩ := ry
  exact PySem.SB.mul ok fun t' k => ⟨.str _, H, I.tok k, ⟨t', rfl⟩, q⟩
theorem foldl_cat : ∀ (l : List (Array Nat)) (acc : Array Nat), (l.foldl (· ++ ·) acc).toList = acc.toList ++ (l.map Array.toList).flatten
  | [], acc => by simp
  | a :: l, acc => by
    rw [List.foldl_cons, foldl_cat l]
    simp
theorem nines_tl {n : Nat} (h : 2 ≤ n) : TL.tl (Txt.mul "9" (n : Nat)) = List.replicate n 57 := by
  unfold Txt.mul
  rw [if_neg (by omega), if_neg]
  · have hn : ((n : Nat) : Int).toNat = n := by omega
    rw [hn]
    show (List.foldl (· ++ ·) #[] (List.replicate n (Str.ofString "9").cps)).toList = _
    rw [foldl_cat, List.map_replicate, show (Str.ofString "9").cps.toList = [57] from rfl, List.flatten_replicate_singleton]
    exact List.nil_append _
  · rw [show (Str.ofString "9").length = 1 from rfl]
    have : ((n : Nat) : Int) ≠ 1 := by omega
    simp [this]
theorem nines_ok {n : Nat} (h : 2 ≤ n) (h2 : n ≤ 100000) : MulOk "9" (n : Nat) := by
  have e : (Str.ofString "9").length = 1 := rfl
  refine ⟨?_, fun _ _ => ?_, fun _ _ => ?_⟩
  · rw [Bool.or_eq_false_iff, decide_eq_false_iff_not, decide_eq_false_iff_not]
    omega
  · rw [e]
    have : ((2 ^ 63 - 1 : Int)) / ((n : Nat) : Int) ≥ 1 := (Int.le_ediv_iff_mul_le (by omega)).mpr (by omega)
    omega
  · rw [e, show ((n : Nat) : Int).toNat = n by omega]
    unfold Builtin.Str.tooLong
    rw [decide_eq_false_iff_not, sizeLine_eq]
    omega
/-! ### words that are as long as they like -/
structure WC (w : Str) : Prop where
  ne : w ≠ e0
  cs : ∀ c ∈ w.cps.toList, 33 ≤ c ∧ c ≤ 126
theorem WOk.wc {w : Str} (h : WOk w) : WC w := ⟨h.ne, h.cs⟩
theorem wc_mem {ws : List Str} {c : Nat} (h : ∀ x ∈ ws, WC x) (hc : c ∈ (jn ws).cps.toList) : 32 ≤ c ∧ c ≤ 126 := by
  have hc : c ∈ TL.tl (jn ws) := hc
  rw [jn_tl, sp1_tl] at hc
  rcases mem_joinL hc with hc | ⟨p, hp, hc⟩
  · have : c = 32 := by simpa using hc
    omega
  · obtain ⟨x, hx, rfl⟩ := List.mem_map.mp hp
    have := (h x hx).cs c hc
    omega
theorem parts_wc {ws : List Str} (ne : ws ≠ []) (h : ∀ x ∈ ws, WC x) : partsF (jn ws) = some ws := by
  unfold partsF
  rw [split_any ne fun x hx hm => (by have := (h x hx).cs 32 hm; omega), if_pos]
  rw [Bool.and_eq_true, Bool.not_eq_true', decide_eq_false_iff_not]
  refine ⟨List.all_eq_true.mpr fun c hc => ?_, fun hm => (h _ hm).ne rfl⟩
  have := wc_mem h hc
  unfold okC
  rw [Bool.and_eq_true, decide_eq_true_iff, decide_eq_true_iff]
  exact this
theorem wc_nines {n : Nat} (h : 2 ≤ n) : WC (Txt.mul "9" (n : Nat)) := by
  have e := nines_tl h
  refine ⟨fun z => ?_, fun c hc => ?_⟩
  · rw [z] at e
    have e : ([] : List Nat) = List.replicate n 57 := e
    have := congrArg List.length e
    rw [List.length_replicate] at this
    simp at this
    omega
  · have hc : c ∈ TL.tl (Txt.mul "9" (n : Nat)) := hc
    rw [e] at hc
    rw [List.eq_of_mem_replicate hc]
    decide
theorem sgn_nines {n : Nat} (h : 32 ≤ n) : sgnO (Txt.mul "9" (n : Nat)) = some (10 ^ 31) := by
  have e := nines_tl (n := n) (by omega)
  have e' : (Txt.mul "9" (n : Nat)).cps.toList = List.replicate n 57 := e
  unfold sgnO
  rw [if_neg]
  · unfold numO
    rw [if_neg (wc_nines (by omega)).ne, if_neg, if_neg, if_pos]
    · rw [TL.len_tl, e, List.length_replicate]
      omega
    · rintro ⟨_, h2⟩
      rw [e', List.getElem?_replicate] at h2
      rw [if_pos (by omega)] at h2
      cases h2
    · rw [e', List.all_eq_true.mpr fun c hc => by rw [List.eq_of_mem_replicate hc]; rfl]
      exact Bool.noConfusion
  · rw [neg1_iff, e]
    intro z
    obtain ⟨m, rfl⟩ : ∃ m, n = m + 1 := ⟨n - 1, by omega⟩
    rw [List.replicate_succ] at z
    cases z
theorem wc_numZ {n : Int} : WC (numZ n) := by
  by_cases c : n < 0
  · have e := numZ_neg c
    refine ⟨fun z => ?_, fun k hk => ?_⟩
    · rw [z] at e
      cases e
    · have hk : k ∈ TL.tl (numZ n) := hk
      rw [e] at hk
      rcases List.mem_cons.mp hk with rfl | hk
      · decide
      · have := TL.numL_digits _ k hk
        omega
  · obtain ⟨m, rfl⟩ : ∃ m : Nat, n = (m : Int) := ⟨n.toNat, by omega⟩
    have e : TL.tl (numS m) = TL.numL m := numS_tl m
    rw [numZ_nat]
    refine ⟨fun z => ?_, fun k hk => ?_⟩
    · rw [z] at e
      exact TL.numL_ne m e.symm
    · have hk : k ∈ TL.tl (numS m) := hk
      rw [e] at hk
      have := TL.numL_digits _ k hk
      omega
theorem numZ_minus {m : Nat} (h : 0 < m) : ("-" : Str) ++ numZ (m : Nat) = numZ (-(m : Nat)) := TL.ext_tl (by
  rw [TL.tl_append, numZ_neg (n := -((m : Nat) : Int)) (by omega), show (-((m : Nat) : Int)).natAbs = m by omega, numZ_nat]
  show [45] ++ (numS m).cps.toList = _
  rw [numS_tl]
  rfl)
/-! ### a code with more lines -/
theorem rows_app {A B : List Str} (ne : A ≠ []) : rowsB (A ++ B) = (rowsB A && B.all fun x => (rowL x).isSome) := by
  obtain ⟨a, A, rfl⟩ := List.exists_cons_of_ne_nil ne
  unfold rowsB
  show (A ++ B).all _ = (A.all _ && _)
  rw [List.all_append]
structure Ext35 (ex : List Str) : Prop where
  ok : ∀ x ∈ ex, (rowL x).isSome = true
theorem codeF_num {rows : List PyData} {a b : Nat} (h1 : a ≤ 10 ^ 30) (h2 : b ≤ 10 ^ 30) (hR : ∀ d ∈ rows, RowR d) (ll : rows.length ≤ 50) {ex : List Str} (ok : ∀ x ∈ ex, (rowL x).isSome = true) (n : ex.length ≤ 50) (big : ∃ x ∈ ex, bigL x = true) : codeF (lnsC rows a b ++ ex) = .many "number" := by
  unfold codeF
  rw [if_neg (by rw [List.length_append, lns_length]; omega), show (lnsC rows a b ++ ex).getD 0 e0 = jn (headW a b) from rfl, head_some h1 h2]
  show (if rowsB _ = true then (if _ then _ else if _ then _ else _) else _) = _
  rw [rows_app (by unfold lnsC; exact List.cons_ne_nil _ _), (rowsO_lns hR).1, Bool.true_and, List.all_eq_true.mpr ok, if_pos rfl, if_pos]
  obtain ⟨x, hx, hb⟩ := big
  exact List.any_eq_true.mpr ⟨x, List.mem_append_right _ hx, hb⟩
theorem codeF_ways {rows : List PyData} {a b : Nat} (h1 : a ≤ 10 ^ 30) (h2 : b ≤ 10 ^ 30) (hR : ∀ d ∈ rows, RowR d) (ll : rows.length ≤ 50) {x : Str} {d : PyData} (hx : rowL x = some d) (hm : manyB d = true) (hb : bigL x = false) : codeF (lnsC rows a b ++ [x]) = .many "ways" := by
  unfold codeF
  rw [if_neg (by rw [List.length_append, lns_length]; show ¬ 4000 < rows.length + 1 + 1; omega), show (lnsC rows a b ++ [x]).getD 0 e0 = jn (headW a b) from rfl, head_some h1 h2]
  show (if rowsB _ = true then (if _ then _ else if _ then _ else _) else _) = _
  rw [rows_app (by unfold lnsC; exact List.cons_ne_nil _ _), (rowsO_lns hR).1, Bool.true_and, List.all_eq_true.mpr (fun y hy => by rw [List.mem_singleton.mp hy, hx]; rfl), if_pos rfl, if_neg, if_pos]
  · unfold rowsO lnsC
    refine List.any_eq_true.mpr ⟨d, ?_, hm⟩
    refine List.mem_map.mpr ⟨x, ?_, by rw [hx]; rfl⟩
    show x ∈ (rows.map _) ++ [x]
    simp
  · rw [List.any_append]
    have : (lnsC rows a b).any bigL = false := List.any_eq_false.mpr fun y hy => by
      rcases List.mem_cons.mp hy with rfl | hy
      · rw [big_no (ws := headW a b) (List.cons_ne_nil _ _) (head_words h1 h2)]; exact Bool.noConfusion
      · obtain ⟨e, he, rfl⟩ := List.mem_map.mp hy
        rw [big_no (hR e he).ne (hR e he).words.1]; exact Bool.noConfusion
    rw [this, List.any_cons, hb]
    exact Bool.noConfusion
/-! the rows -/
def eightW : List Str := ["find", "0", "front", "or", "front", "or", "front", "or", "front", "or", "front", "or", "front", "or", "front", "or", "front"]
theorem wc_all {ws : List Str} (h : ws.all wokB = true) : ∀ x ∈ ws, WC x := fun x hx => (wok_of (List.all_eq_true.mp h x hx)).wc
theorem eight_wc : ∀ x ∈ eightW, WC x := wc_all (by decide +kernel)
theorem eight_row : ∃ d, rowL (jn eightW) = some d ∧ manyB d = true := by
  have h : (match rowF eightW with | some d => manyB d | none => false) = true := by decide +kernel
  have e : rowL (jn eightW) = rowF eightW := by
    unfold rowL
    rw [parts_wc (ws := eightW) (List.cons_ne_nil _ _) eight_wc]
    rfl
  rw [e]
  cases hd : rowF eightW with
  | none => rw [hd] at h; cases h
  | some d => rw [hd] at h; exact ⟨d, rfl, h⟩
theorem eight_big : bigL (jn eightW) = false := by
  unfold bigL
  rw [parts_wc (ws := eightW) (List.cons_ne_nil _ _) eight_wc]
  decide +kernel
theorem eight_str : ("find 0 " : Str) ++ Txt.join " or " (List.replicate 8 "front") = jn eightW := by decide +kernel
def greatW (z : Int) : List Str := ["tie", "1", "0", numZ z]
def longW (n : Nat) : List Str := ["leaf", "1", Txt.mul "9" (n : Nat)]
def leafW : List Str := ["leaf", "1"]
theorem great_wc (z : Int) : ∀ x ∈ greatW z, WC x := fun x hx => by
  simp only [greatW, List.mem_cons, List.not_mem_nil, or_false] at hx
  rcases hx with rfl | rfl | rfl | rfl
  · exact wc_all (ws := ["tie"]) (by decide +kernel) _ (by simp)
  · exact wc_all (ws := ["1"]) (by decide +kernel) _ (by simp)
  · exact wc_all (ws := ["0"]) (by decide +kernel) _ (by simp)
  · exact wc_numZ
theorem long_wc {n : Nat} (h : 2 ≤ n) : ∀ x ∈ longW n, WC x := fun x hx => by
  simp only [longW, List.mem_cons, List.not_mem_nil, or_false] at hx
  rcases hx with rfl | rfl | rfl
  · exact wc_all (ws := ["leaf"]) (by decide +kernel) _ (by simp)
  · exact wc_all (ws := ["1"]) (by decide +kernel) _ (by simp)
  · exact wc_nines h
theorem sg_1 : sgnO "1" = some 1 := by decide +kernel
theorem sg_0 : sgnO "0" = some 0 := by decide +kernel
theorem wD_of {x : Str} {n : Int} (h : sgnO x = some n) : wD x = .int n := by unfold wD; rw [h]
theorem great_row {z : Int} (h : z.natAbs < 10 ^ 31) : (rowL (jn (greatW z))).isSome = true := by
  unfold rowL
  rw [parts_wc (ws := greatW z) (List.cons_ne_nil _ _) (great_wc z)]
  show (rowF (greatW z)).isSome = true
  unfold rowF
  have e : chD (greatW z) = .tuple [.str "tie", .int 1, .int 0, .int z] := by
    unfold greatW
    rw [chD_cons sg_tie]
    show PyData.tuple [.str "tie", wD "1", wD "0", wD (numZ z)] = _
    rw [wD_of sg_1, wD_of sg_0, wD_of (sgn_numZ h)]
  rw [if_pos (show (greatW z).getD 0 e0 ∈ (["tie", "leaf"] : List Str) from List.mem_cons_self), e, if_pos]
  · rfl
  · show (decide (("tie" : Str) = "tie") && (decide ((0 : Int) ≤ 1) && (decide ((0 : Int) ≤ 0) && true))) = true
    decide +kernel
theorem great_big {z : Int} (h : z.natAbs < 10 ^ 31) (h2 : 10 ^ 30 < z.natAbs) : bigL (jn (greatW z)) = true := by
  unfold bigL
  rw [parts_wc (ws := greatW z) (List.cons_ne_nil _ _) (great_wc z)]
  refine List.any_eq_true.mpr ⟨numZ z, by simp [greatW], ?_⟩
  unfold bigN
  rw [sgn_numZ h]
  refine decide_eq_true ?_
  have e : (10 ^ 30 : Int) = ((10 ^ 30 : Nat) : Int) := by decide
  rw [e]
  clear h
  generalize (10 ^ 30 : Nat) = M at h2
  split <;> omega
theorem long_row {n : Nat} (h : 32 ≤ n) : (rowL (jn (longW n))).isSome = true := by
  unfold rowL
  rw [parts_wc (ws := longW n) (List.cons_ne_nil _ _) (long_wc (by omega))]
  show (rowF (longW n)).isSome = true
  unfold rowF
  have e : chD (longW n) = .tuple [.str "leaf", .int 1, .int (10 ^ 31)] := by
    unfold longW
    rw [chD_cons sg_leaf]
    show PyData.tuple [.str "leaf", wD "1", wD (Txt.mul "9" (n : Nat))] = _
    rw [wD_of sg_1, wD_of (sgn_nines h)]
  rw [if_pos (show (longW n).getD 0 e0 ∈ (["tie", "leaf"] : List Str) from List.mem_cons_of_mem _ List.mem_cons_self), e, if_pos]
  · rfl
  · decide +kernel
theorem long_big {n : Nat} (h : 32 ≤ n) : bigL (jn (longW n)) = true := by
  unfold bigL
  rw [parts_wc (ws := longW n) (List.cons_ne_nil _ _) (long_wc (by omega))]
  refine List.any_eq_true.mpr ⟨Txt.mul "9" (n : Nat), by simp [longW], ?_⟩
  unfold bigN
  rw [sgn_nines h]
  decide +kernel
theorem leaf_none : rowL (jn leafW) = none := by
  unfold rowL
  rw [parts_wc (ws := leafW) (List.cons_ne_nil _ _) (wc_all (by decide +kernel))]
  have h : (rowF leafW).isNone = true := by decide +kernel
  exact Option.isNone_iff_eq_none.mp h
theorem leaf_str : ("leaf 1" : Str) = jn leafW := by decide +kernel
theorem great_str (z : Int) : ("tie 1 0 " : Str) ++ numZ z = jn (greatW z) := by
  unfold greatW
  rw [jn_cons (List.cons_ne_nil _ _), jn_cons (List.cons_ne_nil _ _), jn_cons (List.cons_ne_nil _ _), jn_one, ← app_assoc, ← app_assoc, ← app_assoc, ← app_assoc, ← app_assoc]
  congr 1
theorem long_str (n : Nat) : ("leaf 1 " : Str) ++ Txt.mul "9" (n : Nat) = jn (longW n) := by
  unfold longW
  rw [jn_cons (List.cons_ne_nil _ _), jn_cons (List.cons_ne_nil _ _), jn_one, ← app_assoc, ← app_assoc, ← app_assoc]
  congr 1

end
end K35
set_option maxRecDepth 100000
set_option maxHeartbeats 4000000
namespace K35
open PySem PySem.Spec PyProof.Rows L2 L3
local macro_rules | `(tactic| walk_at "s1") => `(tactic| first
  | with_reducible refine r_seq ?_
  | with_reducible refine r_asgN ?_
  | with_reducible refine r_ret ?_
  | with_reducible refine r_next ?_
  | ((with_reducible refine' r_var ?hv ?_); (case hv => exact rfl))
  | with_reducible refine r_c ?_
  | with_reducible refine r_op ?_
  | with_reducible refine r_cons ?_
  | with_reducible refine r_nil ?_
  | with_reducible refine r_plusI ?_
  | with_reducible refine r_I0 ?_
  | with_reducible refine r_test ?_
  | with_reducible refine r_bl ?_
  | with_reducible refine r_ifS ?_
  | with_reducible refine r_cb ?_
  | with_reducible refine r_callS ?_
  | with_reducible refine r_and ?_
  | with_reducible refine r_or ?_
  | with_reducible refine r_not ?_
  | with_reducible refine r_B ?_
  | ((with_reducible refine' r_aug ?hv ?_); (case hv => exact rfl))
  | with_reducible refine r_augS ?_
  | with_reducible refine r_ipI ?_
  | with_reducible refine r_asg ?_
  | with_reducible refine r_sub ?_
  | with_reducible refine r_brk ?_
  | with_reducible refine r_isN1 ?_
  | with_reducible refine r_notN1 ?_
  | with_reducible refine r_intI ?_
  | with_reducible refine r_abs ?_
  | with_reducible refine r_min ?_
  | with_reducible refine r_max ?_
  | ((with_reducible refine' r_mod ?hz ?_); (case hz => omega))
  | ((with_reducible refine' r_pow ?hz ?_); (case hz => exact ⟨by decide, by decide, by decide⟩))
  | ((with_reducible refine' r_rg1 ?hz ?_); (case hz => omega))
  | ((with_reducible refine' r_rg2 ?hz ?_); (case hz => omega))
  | ((with_reducible refine' r_newL ?hz ?_); (case hz => exact Nat.le_of_ble_eq_true rfl))
  | ((with_reducible refine' r_newT ?hz ?_); (case hz => exact Nat.le_of_ble_eq_true rfl))
  | with_reducible refine r_for ?_
  | with_reducible refine r_lc ?_
  | with_reducible refine r_iR1 ?_
  | with_reducible refine r_iR2 ?_
  | with_reducible refine r_iL ?_
  | with_reducible refine r_iT ?_
  | with_reducible refine r_gname ?_
  | with_reducible refine r_gcons ?_
  | with_reducible refine r_gnil ?_
  | with_reducible refine r_yes ?_
  | with_reducible refine r_mkO ?_
  | with_reducible refine r_cont ?_
  | with_reducible refine r_drop ?_
  | with_reducible refine r_retN ?_
  | with_reducible refine r_ifC ?_
  | with_reducible refine r_ifI ?_
  | with_reducible refine r_if ?_
  | with_reducible refine r_un ?_
  | with_reducible refine r_neg ?_
  | with_reducible refine r_andV ?_
  | with_reducible refine r_orV ?_
  | with_reducible refine r_notV ?_
  | with_reducible refine r_tup ?_
  | with_reducible refine r_lst ?_
  | with_reducible refine r_bm ?_
  | with_reducible refine r_bm0 ?_
  | with_reducible refine r_sl ?_
  | with_reducible refine r_chain ?_
  | with_reducible refine r_listDn ?_
  | with_reducible refine r_listRg2 ?_
  | with_reducible refine r_listRg1 ?_
  | with_reducible refine r_revL ?_
  | with_reducible refine r_noPart ?_
  | with_reducible refine r_meth ?_
  | with_reducible refine r_methE ?_
  | with_reducible refine r_js ?_
  | with_reducible refine r_jsC ?_
  | with_reducible refine r_jsN ?_
  | with_reducible refine r_fmt ?_
  | with_reducible refine r_fld ?_
  | with_reducible refine r_sfld ?_
  | with_reducible refine r_make ?_
  | with_reducible refine r_m1 ?_
  | with_reducible refine r_m1s ?_
  | with_reducible refine r_iS ?_
  | with_reducible refine r_iE ?_
  | with_reducible refine r_si ?_
  | with_reducible refine r_strS ?_
  | with_reducible refine r_dgt ?_
  | with_reducible refine r_din ?_
  | with_reducible refine r_dnin ?_
  | with_reducible refine r_dput ?_
  | with_reducible refine r_dnew ?_
  | with_reducible refine r_disp1 ?_
  | with_reducible refine r_lenSet ?_
  | with_reducible refine r_get2 ?_
  | with_reducible refine r_get1 ?_
  | with_reducible refine r_daug ?_
  | with_reducible refine r_iR3 ?_
  | with_reducible refine r_prC ?_
  | with_reducible refine r_prN ?_
  | with_reducible refine r_part ?_
  | with_reducible refine r_int ?_
  | ((with_reducible refine' r_sameS ?hs ?_); (case hs => exact rfl))
  | ((with_reducible refine' r_otherS ?hs ?_); (case hs => exact rfl))
  | with_reducible refine ite_t ?_
  | with_reducible refine ite_f ?_
  | with_reducible refine ite_nt ?_
  | with_reducible refine ite_nf ?_)
local macro_rules | `(tactic| walk_at "st") => `(tactic| repeat (walk_at "s1"))
local macro_rules | `(tactic| walk_at "su") => `(tactic| first
  | with_reducible refine r_seq ?_
  | with_reducible refine r_asgN ?_
  | with_reducible refine r_ret ?_
  | with_reducible refine r_next ?_
  | ((with_reducible refine' r_var ?hv ?_); (case hv => exact rfl))
  | with_reducible refine r_c ?_
  | with_reducible refine r_op ?_
  | with_reducible refine r_cons ?_
  | with_reducible refine r_nil ?_
  | with_reducible refine r_plusI ?_
  | with_reducible refine r_I0 ?_
  | with_reducible refine r_test ?_
  | with_reducible refine r_bl ?_
  | with_reducible refine r_cb ?_
  | with_reducible refine r_callS ?_
  | with_reducible refine r_and ?_
  | with_reducible refine r_or ?_
  | with_reducible refine r_not ?_
  | with_reducible refine r_B ?_
  | ((with_reducible refine' r_aug ?hv ?_); (case hv => exact rfl))
  | with_reducible refine r_augS ?_
  | with_reducible refine r_ipI ?_
  | with_reducible refine r_asg ?_
  | with_reducible refine r_sub ?_
  | with_reducible refine r_brk ?_
  | with_reducible refine r_isN1 ?_
  | with_reducible refine r_notN1 ?_
  | with_reducible refine r_intI ?_
  | with_reducible refine r_abs ?_
  | with_reducible refine r_min ?_
  | with_reducible refine r_max ?_
  | ((with_reducible refine' r_mod ?hz ?_); (case hz => omega))
  | ((with_reducible refine' r_pow ?hz ?_); (case hz => exact ⟨by decide, by decide, by decide⟩))
  | ((with_reducible refine' r_rg1 ?hz ?_); (case hz => omega))
  | ((with_reducible refine' r_rg2 ?hz ?_); (case hz => omega))
  | ((with_reducible refine' r_newL ?hz ?_); (case hz => exact Nat.le_of_ble_eq_true rfl))
  | ((with_reducible refine' r_newT ?hz ?_); (case hz => exact Nat.le_of_ble_eq_true rfl))
  | with_reducible refine r_for ?_
  | with_reducible refine r_lc ?_
  | with_reducible refine r_iR1 ?_
  | with_reducible refine r_iR2 ?_
  | with_reducible refine r_iL ?_
  | with_reducible refine r_iT ?_
  | with_reducible refine r_gname ?_
  | with_reducible refine r_gcons ?_
  | with_reducible refine r_gnil ?_
  | with_reducible refine r_yes ?_
  | with_reducible refine r_mkO ?_
  | with_reducible refine r_cont ?_
  | with_reducible refine r_drop ?_
  | with_reducible refine r_retN ?_
  | with_reducible refine r_ifC ?_
  | with_reducible refine r_ifI ?_
  | with_reducible refine r_if ?_
  | with_reducible refine r_un ?_
  | with_reducible refine r_neg ?_
  | with_reducible refine r_andV ?_
  | with_reducible refine r_orV ?_
  | with_reducible refine r_notV ?_
  | with_reducible refine r_tup ?_
  | with_reducible refine r_lst ?_
  | with_reducible refine r_bm ?_
  | with_reducible refine r_bm0 ?_
  | with_reducible refine r_sl ?_
  | with_reducible refine r_chain ?_
  | with_reducible refine r_listDn ?_
  | with_reducible refine r_listRg2 ?_
  | with_reducible refine r_listRg1 ?_
  | with_reducible refine r_revL ?_
  | with_reducible refine r_noPart ?_
  | with_reducible refine r_meth ?_
  | with_reducible refine r_methE ?_
  | with_reducible refine r_js ?_
  | with_reducible refine r_jsC ?_
  | with_reducible refine r_jsN ?_
  | with_reducible refine r_fmt ?_
  | with_reducible refine r_fld ?_
  | with_reducible refine r_sfld ?_
  | with_reducible refine r_make ?_
  | with_reducible refine r_m1 ?_
  | with_reducible refine r_m1s ?_
  | with_reducible refine r_iS ?_
  | with_reducible refine r_iE ?_
  | with_reducible refine r_si ?_
  | with_reducible refine r_strS ?_
  | with_reducible refine r_dgt ?_
  | with_reducible refine r_din ?_
  | with_reducible refine r_dnin ?_
  | with_reducible refine r_dput ?_
  | with_reducible refine r_dnew ?_
  | with_reducible refine r_disp1 ?_
  | with_reducible refine r_lenSet ?_
  | with_reducible refine r_get2 ?_
  | with_reducible refine r_get1 ?_
  | with_reducible refine r_daug ?_
  | with_reducible refine r_iR3 ?_
  | with_reducible refine r_prC ?_
  | with_reducible refine r_prN ?_
  | with_reducible refine r_part ?_
  | with_reducible refine r_int ?_
  | ((with_reducible refine' r_sameS ?hs ?_); (case hs => exact rfl))
  | ((with_reducible refine' r_otherS ?hs ?_); (case hs => exact rfl))
  | with_reducible refine ite_t ?_
  | with_reducible refine ite_f ?_
  | with_reducible refine ite_nt ?_
  | with_reducible refine ite_nf ?_)
local macro_rules | `(tactic| walk_at "sv") => `(tactic| repeat (walk_at "su"))

section
variable {P : Program} {w : World} {K : PySem.W.Frag} {mg : Str → Option Value} {base : Heap}

theorem wc_nl {ws : List Str} (h : ∀ x ∈ ws, WC x) : ∀ c ∈ (jn ws).cps.toList, c ≠ 10 := fun c hc => by
  have := wc_mem h hc
  omega
structure BigRow (x : Str) : Prop where
  ok : (rowL x).isSome = true
  big : bigL x = true
  nl : ∀ c ∈ x.cps.toList, c ≠ 10
  len : x.length ≤ 20000
theorem numZ_len31 {z : Int} (h : z.natAbs < 10 ^ 31) : (numZ z).length ≤ 40 := by
  have ll : (TL.numL z.natAbs).length ≤ 31 := TL.numL_len (by decide) h
  clear h
  by_cases c : z < 0
  · rw [TL.len_tl, numZ_neg c, List.length_cons]
    omega
  · obtain ⟨m, rfl⟩ : ∃ m : Nat, z = (m : Int) := ⟨z.toNat, by omega⟩
    have e : TL.tl (numS m) = TL.numL m := numS_tl m
    rw [numZ_nat, TL.len_tl, e]
    have : (TL.numL m).length ≤ 31 := ll
    omega
theorem BigRow.great {z : Int} (h1 : z.natAbs < 10 ^ 31) (h2 : 10 ^ 30 < z.natAbs) : BigRow (jn (greatW z)) := by
  refine ⟨great_row h1, great_big h1 h2, wc_nl (great_wc z), ?_⟩
  have := numZ_len31 h1
  rw [← great_str, len_app, show (Str.ofString "tie 1 0 ").length = 8 from rfl]
  omega
theorem BigRow.long {n : Nat} (h1 : 32 ≤ n) (h2 : n ≤ 5000) : BigRow (jn (longW n)) := by
  refine ⟨long_row h1, long_big h1, wc_nl (long_wc (by omega)), ?_⟩
  rw [← long_str, len_app, show (Str.ofString "leaf 1 ").length = 7 from rfl, TL.len_tl (Txt.mul _ _), nines_tl (by omega), List.length_replicate]
  omega
theorem sh_tm {s : Str} (h2 : PyData.strOk s = true) : SeqAt.shaped (.tuple [.str "TooMany", .str s]) = true ∧ (PyData.tuple [.str "TooMany", .str s]).eqv (.tuple [.str "TooMany", .str s]) = true := by
  have h : PyData.strOk ("TooMany" : Str) = true := by decide +kernel
  constructor
  · simp [SeqAt.shaped, PyData.canLay0, PyData.canLayAll0, PyData.depth, PyData.depthAll, h, h2]
  · simp [PyData.eqv, PyData.eqvAll]
theorem r_otherM {K : PySem.W.Frag} {H : Hp} {Q : VK} {y : V} {t : Addr} {s : Str} (hs : PyData.strOk s = true) (h1 : Dp K H y (.tuple [.str "TooMany", .str s])) (h2 : H t = some (.tup [.str "TooMany", .str s])) (k : Q (.bl false) H) : rOther K y (.ref t) H Q :=
  .inr ⟨_, _, h1, .tup (sqT h2) (.cons (.str _) (.cons (.str _) .nil)), (sh_tm hs).1, (sh_tm hs).1, by rw [(sh_tm hs).2]; exact k⟩
theorem codeF_paper {ls : List Str} (h : 4000 < ls.length) : codeF ls = .many "paper" := by
  unfold codeF
  rw [if_pos h]
theorem readP {K : PySem.W.Frag} {H : Hp} {Q : VK} {E : XK} {ls : List Str} (ne : ls ≠ []) (h : ∀ l ∈ ls, (∀ c ∈ l.cps.toList, c ≠ 10) ∧ l.length ≤ 10) (n : ls.length ≤ 4001) (k : ∀ y H', Ext H H' → Dp K H' y (readD (codeF ls)) → Q y H') : spRead K [.str (Txt.join (Str.ofString "\n") ls)] H Q E := by
  refine ⟨_, ls, rfl, ?_, TL.split_join nl_tl (by decide +kernel) ne fun p hp hm => (h p hp).1 10 hm rfl, List.length_pos_iff.mpr ne, fun l hl => by have := (h l hl).2; omega, k⟩
  have h1 := nl_len ls
  have h2 := sum_len fun l hl => (h l hl).2
  omega
theorem codeF_leaf {ls : List Str} {x : Str} (l0 : 0 < ls.length) (ll : ls.length ≤ 50) (hh : ∃ v, headL (ls.getD 0 e0) = some v) (hr : ∀ j, 1 ≤ j → j < ls.length → (rowL (ls.getD j e0)).isSome = true) (hx : (rowL x).isSome = true) : codeF (ls ++ [x, jn leafW]) = .bad (ls.length + 1) := by
  have g : ∀ j, (ls ++ [x, jn leafW]).getD j e0 = if j < ls.length then ls.getD j e0 else if j = ls.length then x else [jn leafW].getD (j - ls.length - 1) e0 := fun j => getD_cat
  refine codeF_bad (by rw [List.length_append]; show _ + 2 ≤ _; omega) (by rw [List.length_append]; show _ < _ + 2; omega) (fun _ => ?_) (fun j j1 ji => ?_) ?_
  · rw [g, if_pos l0]
    exact hh
  · rw [g]
    by_cases c : j < ls.length
    · rw [if_pos c]
      exact hr j j1 c
    · rw [if_neg c, if_pos (by omega)]
      exact hx
  · rw [g, if_neg (by omega), if_neg (by omega), show ls.length + 1 - ls.length - 1 = 0 by omega]
    unfold noneL
    rw [decide_eq_false (by omega), if_neg Bool.noConfusion]
    exact leaf_none
def frontD : PyData := .tuple [.str "front", .list []]
def sevenD : PyData := .tuple [.str "find", .int ((0 : Nat) : Int), .list (List.replicate 7 frontD)]
theorem seven_row : RowR sevenD := .find 0 _ (Nat.zero_le _) (fun d hd => by
  rw [List.eq_of_mem_replicate hd]
  exact .mk "front" [] List.mem_cons_self (fun _ h => nomatch h) (Nat.zero_le _)) (Nat.le_refl _)
theorem seven_str : ("code 0 1\nfind 0 " : Str) ++ Txt.join " or " (List.replicate 7 "front") = Txt.join (Str.ofString "\n") (lnsC [sevenD] 0 1) := by decide +kernel
theorem one_le : (1 : Nat) ≤ 10 ^ 30 := by decide
def spBnd : Sp := fun vs H Q _ => ∃ (p L : Addr) (rows : List PyData) (a b : Nat), vs = [.ref p, .ref L] ∧ Src H p ∧ H L = some (.lst ((lnsC rows a b).map V.str)) ∧ (∀ d ∈ rows, RowR d) ∧ rows.length ≤ 30 ∧ a ≤ 10 ^ 30 ∧ b ≤ 10 ^ 30 ∧ ∀ H', Src H' p → But p H H' → Q (.bl true) H'
theorem sc__law_bounds : FnScope ["source", "lines", "eight", "great", "long", "row", "seven", "turn"] ["source", "lines"] (defScope s__law_bounds) := ⟨rfl, rfl, rfl, by decide +kernel, rfl, by decide +kernel, by decide +kernel⟩
theorem ok__law_bounds (T : Txt w K mg) : CalG P w K mg base 14 "_law_bounds" ["source", "lines"] spBnd := by
  have c__law_pick := ok_law_pick (P := P) (base := base) T
  have c__law_read := ok__law_read (P := P) (base := base) T
  have c__law_same := ok_law_same (P := P) (base := base) T 8
  refine calG_of T.g__law_bounds T.d__law_bounds sc__law_bounds (fun _ _ _ _ _ _ _ us hl => match us, hl with | [_, _], _ => rfl) (fun vs H Q E h => by obtain ⟨_, _, _, _, _, rfl, _⟩ := h; rfl) (fun cdv A outer s H vs Q E hr h => ?_)
  have nd := sc__law_bounds.nd
  have hu := hu64 hr
  obtain ⟨p, L, rows, a, b, rfl, sp, hL, hR, lR, ha, hb, k⟩ := h
  have Lp := strs_ne35 sp hL
  have ltx := lns_tx ha hb hR
  have llen : (lnsC rows a b).length = rows.length + 1 := lns_length
  have lnum := fun {ex} => codeF_num ha hb hR (by omega) (ex := ex)
  have lways := fun {x d} => codeF_ways ha hb hR (by omega) (x := x) (d := d)
  have lat := fun {ls i} => codeF_at ha hb hR (ls := ls) (i := i)
  have lrow : ∀ {j}, 1 ≤ j → j < (lnsC rows a b).length → (rowL ((lnsC rows a b).getD j e0)).isSome = true := fun {j} j1 jl => by
    rw [llen] at jl
    obtain ⟨j, rfl⟩ : ∃ k, j = k + 1 := ⟨j - 1, by omega⟩
    rw [lns_at (by omega), row_some (hR _ (List.getElem_mem _))]
    rfl
  have lhead : ∃ v, headL ((lnsC rows a b).getD 0 e0) = some v := ⟨_, head_some ha hb⟩
  have lpos : (lnsC rows a b).length ≤ 31 ∧ 0 < (lnsC rows a b).length := by omega
  generalize lnsC rows a b = ls at hL ltx llen lnum lways lat lrow lhead lpos
  clear llen
  refine ⟨_, (pss_cons (ps_set (i := 2) nd rfl (Or.inl rfl) (pe_op (plusK (K := K)) pe_str (pe_joinK (K := K) pe_str (pe_op op_timesB (pe_lst (pa_cons pe_str pa_nil)) pe_int))))
        (pss_cons (ps_set (i := 3) nd rfl (Or.inl rfl) (pe_op (plusK (K := K)) (pe_op (plusK (K := K)) pe_str (pe_ix (ixK (K := K)) (pe_lst (pa_cons pe_str (pa_cons pe_str pa_nil))) (pe_cal c__law_pick hr (by omega) (fun σ => L2N.passAt (L2N.takes_of rfl rfl rfl rfl) σ) (pa_cons (pv 0) (pa_cons pe_int pa_nil))) (fun _ _ => rfl))) (pe_callTy cr_str (by rfl) T.f_str (by decide +kernel) (pa_cons (pe_op (plusK (K := K)) (pe_op (plusK (K := K)) (pe_op op_pow pe_int pe_int) pe_int) (pe_cal c__law_pick hr (by omega) (fun σ => L2N.passAt (L2N.takes_of rfl rfl rfl rfl) σ) (pa_cons (pv 0) (pa_cons (pe_op op_pow pe_int pe_int) pa_nil)))) pa_nil))))
        (pss_cons (ps_set (i := 4) nd rfl (Or.inl rfl) (pe_op (plusK (K := K)) pe_str (pe_op op_mulS pe_str (pe_op (plusK (K := K)) pe_int (pe_cal c__law_pick hr (by omega) (fun σ => L2N.passAt (L2N.takes_of rfl rfl rfl rfl) σ) (pa_cons (pv 0) (pa_cons pe_int pa_nil)))))))
        (pss_cons (ps_if (pt_cmpR (otherK (K := K) hu) (pe_cal c__law_read hr (by omega) (fun σ => L2N.passAt (L2N.takes_of rfl rfl rfl rfl) σ) (pa_cons (pe_joinK (K := K) pe_str (pe_op (plusK (K := K)) (pv 1) (pe_lst (pa_cons (pv 2) pa_nil)))) pa_nil)) (pe_tup (pa_cons pe_str (pa_cons pe_str pa_nil))) (nomark _)) (pss_one (ps_ret pe_bl)) pss_nil)
        (pss_cons (ps_for (passes_of rfl) rfl (piL (K := K) (pe_lst (pa_cons (pv 3) (pa_cons (pv 4) pa_nil)))) (pg_name (i := 5) nd rfl (Or.inl rfl)) (pss_cons (ps_if (pt_cmpR (otherK (K := K) hu) (pe_cal c__law_read hr (by omega) (fun σ => L2N.passAt (L2N.takes_of rfl rfl rfl rfl) σ) (pa_cons (pe_joinK (K := K) pe_str (pe_op (plusK (K := K)) (pv 1) (pe_lst (pa_cons (pv 2) (pa_cons (pv 5) pa_nil))))) pa_nil)) (pe_tup (pa_cons pe_str (pa_cons pe_str pa_nil))) (nomark _)) (pss_one (ps_ret pe_bl)) pss_nil)
        (pss_one (ps_if (pt_cmpR (otherK (K := K) hu) (pe_cal c__law_read hr (by omega) (fun σ => L2N.passAt (L2N.takes_of rfl rfl rfl rfl) σ) (pa_cons (pe_joinK (K := K) pe_str (pe_op (plusK (K := K)) (pv 1) (pe_lst (pa_cons (pv 5) (pa_cons pe_str pa_nil))))) pa_nil)) (pe_tup (pa_cons pe_str (pa_cons (pe_op (plusK (K := K)) (pe_callB (lenK (K := K)) (by rfl) T.f_len boot_len (pa_cons (pv 1) pa_nil)) pe_int) pa_nil))) (nomark _)) (pss_one (ps_ret pe_bl)) pss_nil))))
        (pss_cons (ps_if (pt_cmpR (otherK (K := K) hu) (pe_cal c__law_read hr (by omega) (fun σ => L2N.passAt (L2N.takes_of rfl rfl rfl rfl) σ) (pa_cons (pe_joinK (K := K) pe_str (pe_op (plusK (K := K)) (pe_lst (pa_cons pe_str pa_nil)) (pe_op op_timesB (pe_lst (pa_cons pe_str pa_nil)) pe_int))) pa_nil)) (pe_tup (pa_cons pe_str (pa_cons pe_str pa_nil))) (nomark _)) (pss_one (ps_ret pe_bl)) pss_nil)
        (pss_cons (ps_set (i := 6) nd rfl (Or.inl rfl) (pe_lst (pa_cons (pe_tup (pa_cons pe_str (pa_cons pe_int (pa_cons (pe_lc (own := [("turn", 7)]) rfl nd (pi_range1 (by rfl) T.f_range (pa_cons pe_int pa_nil)) (blkOk_by (N := ["source", "lines", "eight", "great", "long", "row", "seven", "turn"]) (sc := defScope s__law_bounds) (by decide +kernel)) (fun _ _ _ _ _ => (pg_name (i := 7) nd rfl (Or.inl rfl))) (fun _ _ _ _ _ => pts_nil) (fun _ _ _ _ _ => (pe_tup (pa_cons pe_str (pa_cons (pe_lst pa_nil) pa_nil))))) pa_nil)))) pa_nil)))
        (pss_one (ps_ret (pe_cal c__law_same hr (by omega) (fun σ => L2N.passAt (L2N.takes_of rfl rfl rfl rfl) σ) (pa_cons (pe_cal c__law_read hr (by omega) (fun σ => L2N.passAt (L2N.takes_of rfl rfl rfl rfl) σ) (pa_cons (pe_op (plusK (K := K)) pe_str (pe_joinK (K := K) pe_str (pe_op op_timesB (pe_lst (pa_cons pe_str pa_nil)) pe_int))) pa_nil)) (pa_cons (pe_lst (pa_cons (pv 6) (pa_cons pe_int (pa_cons pe_int pa_nil)))) pa_nil)))))))))))), ?_⟩
  walk_at "st"
  intro l1 H1 hl1 e1 h1
  walk_at "st"
  refine r_repL h1 (by decide) (by decide) (by decide) (fun l2 H2 hl2 e2 h2 => ?_)
  have h2 : H2 l2 = some (.lst ((List.replicate 8 ("front" : Str)).map V.str)) := h2
  refine r_join (sqL h2) (by decide) ?_
  refine r_plusS (by decide +kernel) ?_
  rw [eight_str]
  walk_at "st"
  intro l3 H3 hl3 e3 h3
  walk_at "st"
  have e03 := (e1.trans e2).trans e3
  refine ⟨p, 2, rfl, sp.ext e03, by decide, by decide, fun r4 H4 r40 r42 s4 n4 => ?_⟩
  obtain ⟨z4, rfl, z42⟩ := npick (m := 2) r40 r42
  have b4 : But p H H4 := ((But.rfl.ext e03).trans (.of n4))
  have l3p : l3 ≠ p := (src_ne (sp.ext (e1.trans e2)) hl3).symm
  have h4 := stay n4 l3p h3
  obtain ⟨g, eg, hg⟩ : ∃ g : Str, ([V.str "", .str "-"] : List V)[z4]? = some (.str g) ∧ (g = e0 ∨ g = Str.ofString "-") := by
    match z4, z42 with
    | 0, _ => exact ⟨_, rfl, .inl rfl⟩
    | 1, _ => exact ⟨_, rfl, .inr rfl⟩
  refine r_atL (sqL h4) (atI_nat eg) ?_
  have gl : g.length ≤ 1 := by rcases hg with h | h <;> rw [h] <;> decide
  walk_at "st"
  refine r_plusS (by show 8 + _ ≤ _; omega) ?_
  walk_at "st"
  refine ⟨p, _, rfl, s4, by decide, by decide, fun r5 H5 r50 r5m s5 n5 => ?_⟩
  have b5 := b4.trans (.of n5)
  obtain ⟨m, rfl⟩ : ∃ m : Nat, r5 = (m : Int) := ⟨r5.toNat, by omega⟩
  obtain ⟨z, ez, hz1, hz2⟩ : ∃ z : Nat, (10 : Int) ^ (30 : Int).toNat + 1 + (m : Int) = (z : Nat) ∧ z < 10 ^ 31 ∧ 10 ^ 30 < z := by
    have em : (10 : Int) ^ (30 : Int).toNat = ((10 ^ 30 : Nat) : Int) := by decide
    have em2 : (10 : Int) ^ (20 : Int).toNat = ((10 ^ 20 : Nat) : Int) := by decide
    have h12 : 10 ^ 30 + 1 + (10 ^ 20 : Nat) < 10 ^ 31 := by decide
    rw [em2] at r5m
    refine ⟨10 ^ 30 + 1 + m, ?_, ?_, ?_⟩
    · rw [em]
      generalize (10 ^ 30 : Nat) = M
      omega
    · generalize (10 ^ 30 : Nat) = M at h12 ⊢
      generalize (10 ^ 31 : Nat) = M2 at h12 ⊢
      generalize (10 ^ 20 : Nat) = M3 at h12 r5m
      omega
    · generalize (10 ^ 30 : Nat) = M
      omega
  walk_at "st"
  rw [ez]
  have zlog : ((z : Nat) : Int).natAbs.log2 < 1920 := by
    have e : ((z : Nat) : Int).natAbs = z := by omega
    rw [e]
    exact (Nat.log2_lt (by clear hz1; omega)).mpr (Nat.lt_trans hz1 (by decide +kernel))
  refine r_strI zlog ?_
  have zl40 : (numZ (z : Nat)).length ≤ 40 := numZ_len31 (z := (z : Nat)) (by rw [show ((z : Nat) : Int).natAbs = z by omega]; exact hz1)
  have zl41 : (Str.ofString (toString ((z : Nat) : Int))).length ≤ 40 := zl40
  obtain ⟨G, eG, bG⟩ : ∃ G, ("tie 1 0 " : Str) ++ g ++ numZ (z : Nat) = G ∧ BigRow G := by
    have nz : (-((z : Nat) : Int)).natAbs = z := by clear hz1 hz2; omega
    rcases hg with h | h
    · refine ⟨jn (greatW (z : Nat)), ?_, .great (by rw [show ((z : Nat) : Int).natAbs = z by clear hz1 hz2; omega]; exact hz1) (by rw [show ((z : Nat) : Int).natAbs = z by clear hz1 hz2; omega]; exact hz2)⟩
      rw [h, ← great_str]
      exact congrArg (· ++ numZ (z : Nat)) (show ("tie 1 0 " : Str) ++ e0 = "tie 1 0 " from rfl)
    · refine ⟨jn (greatW (-(z : Nat))), ?_, .great (by rw [nz]; exact hz1) (by rw [nz]; exact hz2)⟩
      rw [h, ← great_str, app_assoc, ← numZ_minus (Nat.lt_of_le_of_lt (Nat.zero_le _) hz2)]
  refine r_plusS (by rw [len_app]; show 8 + _ + _ ≤ _; omega) ?_
  rw [show (Str.ofString "tie 1 0 " ++ g ++ Str.ofString (toString ((z : Nat) : Int))) = G from eG]
  clear hz1 hz2 eG ez zlog zl40 zl41 hg gl eg
  walk_at "st"
  refine ⟨p, 4000, rfl, s5, by decide, by decide, fun r6 H6 r60 r6m s6 n6 => ?_⟩
  have b6 := b5.trans (.of n6)
  obtain ⟨y, rfl, hy⟩ := npick (m := 4000) r60 r6m
  walk_at "st"
  rw [show (32 : Int) + (y : Nat) = ((32 + y : Nat) : Int) by omega]
  refine ⟨_, _, rfl, rfl, nines_ok (by omega) (by omega), ?_⟩
  have bL : BigRow (jn (longW (32 + y))) := .long (by omega) (by omega)
  refine r_plusS (by
    have := bL.len
    rw [← long_str, len_app] at this
    exact Nat.le_trans this (by decide)) ?_
  rw [long_str]
  generalize jn (longW (32 + y)) = G2 at bL
  walk_at "st"
  have L6 := b6 _ _ Lp hL
  intro t1 H7 ht1 e7 h7
  have h7 : H7 t1 = some (.lst ([jn eightW].map V.str)) := h7
  refine r_catL (e7 _ _ L6) h7 (by rw [List.length_map]; show _ + 1 ≤ _; omega) (fun t2 H8 ht2 e8 h8 => ?_)
  rw [← List.map_append] at h8
  have ei : (∀ c ∈ (jn eightW).cps.toList, c ≠ 10) ∧ (jn eightW).length ≤ 20000 := ⟨wc_nl eight_wc, by decide +kernel⟩
  have txA : ∀ {ex : List Str}, (∀ l ∈ ex, (∀ c ∈ l.cps.toList, c ≠ 10) ∧ l.length ≤ 20000) → ex.length ≤ 2 → TxR (ls ++ ex) := fun h hn => .of (fun z => by
    have := congrArg List.length z
    rw [List.length_append] at this
    have : ls.length + _ = 0 := this
    omega) (fun l hl => (List.mem_append.mp hl).elim (ltx l) (h l)) (by rw [List.length_append]; omega)
  have tx1 : TxR (ls ++ [jn eightW]) := txA (fun l hl => by rw [List.mem_singleton.mp hl]; exact ei) (by show 1 ≤ 2; decide)
  walk_at "st"
  refine r_join (sqL h8) tx1.join ?_
  walk_at "st"
  refine tx1.read fun y1 H9 e9 d9 => ?_
  obtain ⟨d8, hd8, hm8⟩ := eight_row
  rw [lways hd8 hm8 eight_big] at d9
  walk_at "st"
  intro t3 H10 ht3 e10 h10
  refine r_otherM (by decide +kernel) (e10.dp _ d9) h10 ?_
  walk_at "st"
  have b10 := ((((b6.ext e7).ext e8).ext e9).ext e10)
  have s10 := ((((s6.ext e7).ext e8).ext e9).ext e10)
  intro t4 H11 ht4 e11 h11
  walk_at "st"
  refine r_li (sqL h11) ?_
  refine forW_list (fun i σ' H' => ∃ v, σ' = [some (.ref p), some (.ref L), some (.str (jn eightW)), some (.str G), some (.str G2), v, none, none] ∧ Ext H11 H') ⟨none, rfl, .rfl⟩ (fun i σ' H' _ ⟨_, _, e⟩ => sqL (e _ _ h11)) ?_ ?_
  · rintro i y2 σ' H12 hy2 ⟨v, rfl, e12⟩
    obtain ⟨X, rfl, bX⟩ : ∃ X : Str, y2 = .str X ∧ BigRow X := by
      match i, hy2 with
      | 0, h => cases h; exact ⟨_, rfl, bG⟩
      | 1, h => cases h; exact ⟨_, rfl, bL⟩
    have L12 := e12 _ _ (e11 _ _ (b10 _ _ Lp hL))
    walk_at "st"
    intro u1 H13 hu1 e13 h13
    have h13 : H13 u1 = some (.lst ([jn eightW, X].map V.str)) := h13
    refine r_catL (e13 _ _ L12) h13 (by rw [List.length_map]; show _ + 2 ≤ _; omega) (fun u2 H14 hu2 e14 h14 => ?_)
    rw [← List.map_append] at h14
    have tx2 : TxR (ls ++ [jn eightW, X]) := txA (fun l hl => by
      rcases List.mem_cons.mp hl with rfl | hl
      · exact ei
      · rw [List.mem_singleton.mp hl]; exact ⟨bX.nl, bX.len⟩) (Nat.le_refl _)
    walk_at "st"
    refine r_join (sqL h14) tx2.join ?_
    walk_at "st"
    refine tx2.read fun y3 H15 e15 d15 => ?_
    rw [lnum (fun x hx => by
      rcases List.mem_cons.mp hx with rfl | hx
      · rw [hd8]; rfl
      · rw [List.mem_singleton.mp hx]; exact bX.ok) (by show 2 ≤ 50; decide) ⟨X, by simp, bX.big⟩] at d15
    walk_at "st"
    intro u3 H16 hu3 e16 h16
    refine r_otherM (by decide +kernel) (e16.dp _ d15) h16 ?_
    walk_at "st"
    intro u4 H17 hu4 e17 h17
    have L16 := e16 _ _ (e15 _ _ (e14 _ _ (e13 _ _ L12)))
    have h17 : H17 u4 = some (.lst ([X, jn leafW].map V.str)) := by rw [h17, ← leaf_str]; rfl
    refine r_catL (e17 _ _ L16) h17 (by rw [List.length_map]; show _ + 2 ≤ _; omega) (fun u5 H18 hu5 e18 h18 => ?_)
    rw [← List.map_append] at h18
    have tx3 : TxR (ls ++ [X, jn leafW]) := txA (fun l hl => by
      rcases List.mem_cons.mp hl with rfl | hl
      · exact ⟨bX.nl, bX.len⟩
      · rw [List.mem_singleton.mp hl]; exact ⟨wc_nl (wc_all (by decide +kernel)), by decide +kernel⟩) (Nat.le_refl _)
    walk_at "st"
    refine r_join (sqL h18) tx3.join ?_
    walk_at "st"
    refine tx3.read fun y4 H19 e19 d19 => ?_
    rw [codeF_leaf lpos.2 (by omega) lhead (fun j j1 jl => lrow j1 jl) bX.ok] at d19
    have d19 : Dp K H19 y4 (.tuple [.str "BadText", .int ((ls.length + 1 + 1 : Nat) : Int)]) := d19
    walk_at "st"
    have L19 := e19 _ _ (e18 _ _ (e17 _ _ L16))
    refine r_lenL (sqL L19) (n := (ls.length : Nat)) (by rw [List.length_map]) ?_
    walk_at "st"
    intro u6 H20 hu6 e20 h20
    rw [show ((ls.length : Nat) : Int) + 2 = ((ls.length + 1 + 1 : Nat) : Int) by omega] at h20
    refine r_otherB (e20.dp _ d19) h20 ?_
    walk_at "st"
    exact ⟨_, rfl, (((((((e12.trans e13).trans e14).trans e15).trans e16).trans e17).trans e18).trans e19).trans e20⟩
  rintro σ' H12 ⟨v, rfl, e12⟩
  have b12 := (b10.ext e11).ext e12
  have s12 := (s10.ext e11).ext e12
  walk_at "st"
  intro t5 H13 ht5 e13 h13
  walk_at "st"
  intro t6 H14 ht6 e14 h14
  walk_at "st"
  obtain ⟨N, hN⟩ : ∃ N : Nat, N = 4000 := ⟨_, rfl⟩
  have eN : (4000 : Int) = ((N : Nat) : Int) := by rw [hN]; rfl
  rw [eN]
  refine r_repL h14 (by omega) (by omega) (by show 1 * _ ≤ _; omega) (fun t7 H15 ht7 e15 h15 => ?_)
  rw [show ((N : Nat) : Int).toNat = N by omega, List.flatten_replicate_singleton] at h15
  refine r_catL (e15 _ _ (e14 _ _ h13)) h15 (by rw [List.length_replicate]; show 1 + _ ≤ _; omega) (fun t8 H16 ht8 e16 h16 => ?_)
  have h16 : H16 t8 = some (.lst ((("codes" : Str) :: List.replicate N "leaf 0 0").map V.str)) := by rw [h16, List.map_cons, List.map_replicate]; rfl
  have pn : (("codes" : Str) :: List.replicate N "leaf 0 0").length = 4001 := by rw [List.length_cons, List.length_replicate, hN]
  have pl : ∀ l ∈ (("codes" : Str) :: List.replicate N "leaf 0 0"), (∀ c ∈ l.cps.toList, c ≠ 10) ∧ l.length ≤ 10 := fun l hl => by
    rcases List.mem_cons.mp hl with rfl | hl
    · decide +kernel
    · rw [List.eq_of_mem_replicate hl]
      decide +kernel
  walk_at "st"
  refine r_join (sqL h16) (join_le (m := 10) (n := 4001) (k := 1) (fun l hl => (pl l hl).2) (by omega) (by decide +kernel) (by decide)) ?_
  walk_at "st"
  refine readP (List.cons_ne_nil _ _) pl (by omega) fun y5 H17 e17 d17 => ?_
  rw [codeF_paper (by omega)] at d17
  clear pn pl h16 h15 eN hN
  walk_at "st"
  intro t9 H18 ht9 e18 h18
  refine r_otherM (by decide +kernel) (e18.dp _ d17) h18 ?_
  walk_at "st"
  have e1218 := ((((e13.trans e14).trans e15).trans e16).trans e17).trans e18
  have b18 := b12.ext e1218
  have s18 := s12.ext e1218
  intro D hD
  have Dn : ∀ {G0 : Hp}, Ext (upd H18 D (.lst [])) G0 → ∀ a, G0 a = none → a ≠ D := fun e a ha z => by
    have := e _ _ (upd_same (H := H18) (a := D) (o := .lst []))
    rw [z, this] at ha
    cases ha
  refine lcW_range (fun i G0 => Ext H18 G0 ∧ ∃ ys, G0 D = some (.lst ys) ∧ ys.length = i ∧ Nws (fun b => b ≠ D) G0 ys (List.replicate i frontD)) ⟨.new hD, [], upd_same, rfl, .nil⟩ ?_ ?_
  · rintro i G0 hi ⟨e0', ys, hys, yl, nys⟩
    walk_at "st"
    refine r_lcW rfl ?_
    walk_at "st"
    intro v1 G1 hv1 f1 g1
    walk_at "st"
    intro v2 G2' hv2 f2 g2
    have n2 : Nw (fun b => b ≠ D) G2' (.ref v2) frontD := by
      refine .tup (fun z => ?_) g2 (.cons (.str _) (.cons (.lst (fun z => ?_) (f2 _ _ g1) .nil) .nil))
      · rw [z, f1 _ _ hys] at hv2; cases hv2
      · rw [z, hys] at hv1; cases hv1
    have f12 := f1.trans f2
    refine ⟨ys, f12 _ _ hys, by rw [yl, sizeLine_eq]; omega, Ext.mut (e0'.trans f12) hD, ys ++ [.ref v2], upd_same, by rw [List.length_append, yl]; rfl, ?_⟩
    rw [List.replicate_succ']
    have kp : ∀ (a : Addr) (o : HO), a ≠ D → G2' a = some o → upd G2' D (.lst (ys ++ [.ref v2])) a = some o ∧ a ≠ D := fun a o s q => ⟨by rw [upd_ne s]; exact q, s⟩
    exact ((Nws.ext f12 nys).keep kp _).append (.cons (n2.keep kp _) .nil)
  rintro G0 ⟨e0', ys, hys, yl, nys⟩
  walk_at "st"
  intro w1 H19 hw1 e19 h19
  walk_at "st"
  intro w2 H20 hw2 e20 h20
  have d20 : Dp K H20 (.ref w2) (.list [sevenD]) := .lst (sqL h20) (.cons (.tup (sqT (e20 _ _ h19)) (.cons (.str _) (.cons (.int _) (.cons (.lst (sqL (e20 _ _ (e19 _ _ hys))) ((Nws.ext (e19.trans e20) nys).dp _)) .nil)))) .nil)
  have b20 := ((b18.ext e0').ext e19).ext e20
  have s20 := ((s18.ext e0').ext e19).ext e20
  clear d17 h18 h19 h20 nys
  walk_at "st"
  intro w3 H21 hw3 e21 h21
  walk_at "st"
  refine r_repL h21 (by decide) (by decide) (by decide) (fun w4 H22 hw4 e22 h22 => ?_)
  have h22 : H22 w4 = some (.lst ((List.replicate 7 ("front" : Str)).map V.str)) := h22
  refine r_join (sqL h22) (by decide) ?_
  refine r_plusS (by decide +kernel) ?_
  rw [seven_str]
  walk_at "st"
  have sr : ∀ d ∈ [sevenD], RowR d := fun d hd => by rw [List.mem_singleton.mp hd]; exact seven_row
  have tx7 : TxR (lnsC [sevenD] 0 1) := .of (List.cons_ne_nil _ _) (lns_tx (Nat.zero_le _) one_le sr) (by rw [lns_length]; decide)
  refine tx7.read fun y6 H23 e23 d23 => ?_
  rw [codeF_ok sr (by decide) (Nat.zero_le _) one_le] at d23
  have d23 : Dp K H23 y6 (.list [.list [sevenD], .int ((0 : Nat) : Int), .int ((1 : Nat) : Int)]) := d23
  walk_at "st"
  intro w5 H24 hw5 e24 h24
  walk_at "st"
  have e2024 := ((e21.trans e22).trans e23).trans e24
  refine ⟨y6, .ref w5, .list [.list [sevenD], .int ((0 : Nat) : Int), .int ((1 : Nat) : Int)], rfl, e24.dp _ d23, .lst (sqL h24) (.cons (e2024.dp _ d20) (.cons (.int _) (.cons (.int _) .nil))), smB_ok (by decide +kernel), fun H25 e25 => ?_⟩
  exact k _ (s20.ext (e2024.trans e25)) (b20.ext (e2024.trans e25))

end
end K35
set_option maxRecDepth 100000
set_option maxHeartbeats 4000000
namespace K35
open PySem PySem.Spec PyProof.Rows L2 L3
local macro_rules | `(tactic| walk_at "s1") => `(tactic| first
  | with_reducible refine r_seq ?_
  | with_reducible refine r_asgN ?_
  | with_reducible refine r_ret ?_
  | with_reducible refine r_next ?_
  | ((with_reducible refine' r_var ?hv ?_); (case hv => exact rfl))
  | with_reducible refine r_c ?_
  | with_reducible refine r_op ?_
  | with_reducible refine r_cons ?_
  | with_reducible refine r_nil ?_
  | with_reducible refine r_plusI ?_
  | with_reducible refine r_I0 ?_
  | with_reducible refine r_test ?_
  | with_reducible refine r_bl ?_
  | with_reducible refine r_ifS ?_
  | with_reducible refine r_cb ?_
  | with_reducible refine r_callS ?_
  | with_reducible refine r_and ?_
  | with_reducible refine r_or ?_
  | with_reducible refine r_not ?_
  | with_reducible refine r_B ?_
  | ((with_reducible refine' r_aug ?hv ?_); (case hv => exact rfl))
  | with_reducible refine r_augS ?_
  | with_reducible refine r_ipI ?_
  | with_reducible refine r_asg ?_
  | with_reducible refine r_sub ?_
  | with_reducible refine r_brk ?_
  | with_reducible refine r_isN1 ?_
  | with_reducible refine r_notN1 ?_
  | with_reducible refine r_intI ?_
  | with_reducible refine r_abs ?_
  | with_reducible refine r_min ?_
  | with_reducible refine r_max ?_
  | ((with_reducible refine' r_mod ?hz ?_); (case hz => omega))
  | ((with_reducible refine' r_pow ?hz ?_); (case hz => exact ⟨by decide, by decide, by decide⟩))
  | ((with_reducible refine' r_rg1 ?hz ?_); (case hz => omega))
  | ((with_reducible refine' r_rg2 ?hz ?_); (case hz => omega))
  | ((with_reducible refine' r_newL ?hz ?_); (case hz => exact Nat.le_of_ble_eq_true rfl))
  | ((with_reducible refine' r_newT ?hz ?_); (case hz => exact Nat.le_of_ble_eq_true rfl))
  | with_reducible refine r_for ?_
  | with_reducible refine r_lc ?_
  | with_reducible refine r_iR1 ?_
  | with_reducible refine r_iR2 ?_
  | with_reducible refine r_iL ?_
  | with_reducible refine r_iT ?_
  | with_reducible refine r_gname ?_
  | with_reducible refine r_gcons ?_
  | with_reducible refine r_gnil ?_
  | with_reducible refine r_yes ?_
  | with_reducible refine r_mkO ?_
  | with_reducible refine r_cont ?_
  | with_reducible refine r_drop ?_
  | with_reducible refine r_retN ?_
  | with_reducible refine r_ifC ?_
  | with_reducible refine r_ifI ?_
  | with_reducible refine r_if ?_
  | with_reducible refine r_un ?_
  | with_reducible refine r_neg ?_
  | with_reducible refine r_andV ?_
  | with_reducible refine r_orV ?_
  | with_reducible refine r_notV ?_
  | with_reducible refine r_tup ?_
  | with_reducible refine r_lst ?_
  | with_reducible refine r_bm ?_
  | with_reducible refine r_bm0 ?_
  | with_reducible refine r_sl ?_
  | with_reducible refine r_chain ?_
  | with_reducible refine r_listDn ?_
  | with_reducible refine r_listRg2 ?_
  | with_reducible refine r_listRg1 ?_
  | with_reducible refine r_revL ?_
  | with_reducible refine r_noPart ?_
  | with_reducible refine r_meth ?_
  | with_reducible refine r_methE ?_
  | with_reducible refine r_js ?_
  | with_reducible refine r_jsC ?_
  | with_reducible refine r_jsN ?_
  | with_reducible refine r_fmt ?_
  | with_reducible refine r_fld ?_
  | with_reducible refine r_sfld ?_
  | with_reducible refine r_make ?_
  | with_reducible refine r_m1 ?_
  | with_reducible refine r_m1s ?_
  | with_reducible refine r_iS ?_
  | with_reducible refine r_iE ?_
  | with_reducible refine r_si ?_
  | with_reducible refine r_strS ?_
  | with_reducible refine r_dgt ?_
  | with_reducible refine r_din ?_
  | with_reducible refine r_dnin ?_
  | with_reducible refine r_dput ?_
  | with_reducible refine r_dnew ?_
  | with_reducible refine r_disp1 ?_
  | with_reducible refine r_lenSet ?_
  | with_reducible refine r_get2 ?_
  | with_reducible refine r_get1 ?_
  | with_reducible refine r_daug ?_
  | with_reducible refine r_iR3 ?_
  | with_reducible refine r_prC ?_
  | with_reducible refine r_prN ?_
  | with_reducible refine r_part ?_
  | with_reducible refine r_int ?_
  | ((with_reducible refine' r_sameS ?hs ?_); (case hs => exact rfl))
  | ((with_reducible refine' r_otherS ?hs ?_); (case hs => exact rfl))
  | with_reducible refine ite_t ?_
  | with_reducible refine ite_f ?_
  | with_reducible refine ite_nt ?_
  | with_reducible refine ite_nf ?_)
local macro_rules | `(tactic| walk_at "st") => `(tactic| repeat (walk_at "s1"))
local macro_rules | `(tactic| walk_at "su") => `(tactic| first
  | with_reducible refine r_seq ?_
  | with_reducible refine r_asgN ?_
  | with_reducible refine r_ret ?_
  | with_reducible refine r_next ?_
  | ((with_reducible refine' r_var ?hv ?_); (case hv => exact rfl))
  | with_reducible refine r_c ?_
  | with_reducible refine r_op ?_
  | with_reducible refine r_cons ?_
  | with_reducible refine r_nil ?_
  | with_reducible refine r_plusI ?_
  | with_reducible refine r_I0 ?_
  | with_reducible refine r_test ?_
  | with_reducible refine r_bl ?_
  | with_reducible refine r_cb ?_
  | with_reducible refine r_callS ?_
  | with_reducible refine r_and ?_
  | with_reducible refine r_or ?_
  | with_reducible refine r_not ?_
  | with_reducible refine r_B ?_
  | ((with_reducible refine' r_aug ?hv ?_); (case hv => exact rfl))
  | with_reducible refine r_augS ?_
  | with_reducible refine r_ipI ?_
  | with_reducible refine r_asg ?_
  | with_reducible refine r_sub ?_
  | with_reducible refine r_brk ?_
  | with_reducible refine r_isN1 ?_
  | with_reducible refine r_notN1 ?_
  | with_reducible refine r_intI ?_
  | with_reducible refine r_abs ?_
  | with_reducible refine r_min ?_
  | with_reducible refine r_max ?_
  | ((with_reducible refine' r_mod ?hz ?_); (case hz => omega))
  | ((with_reducible refine' r_pow ?hz ?_); (case hz => exact ⟨by decide, by decide, by decide⟩))
  | ((with_reducible refine' r_rg1 ?hz ?_); (case hz => omega))
  | ((with_reducible refine' r_rg2 ?hz ?_); (case hz => omega))
  | ((with_reducible refine' r_newL ?hz ?_); (case hz => exact Nat.le_of_ble_eq_true rfl))
  | ((with_reducible refine' r_newT ?hz ?_); (case hz => exact Nat.le_of_ble_eq_true rfl))
  | with_reducible refine r_for ?_
  | with_reducible refine r_lc ?_
  | with_reducible refine r_iR1 ?_
  | with_reducible refine r_iR2 ?_
  | with_reducible refine r_iL ?_
  | with_reducible refine r_iT ?_
  | with_reducible refine r_gname ?_
  | with_reducible refine r_gcons ?_
  | with_reducible refine r_gnil ?_
  | with_reducible refine r_yes ?_
  | with_reducible refine r_mkO ?_
  | with_reducible refine r_cont ?_
  | with_reducible refine r_drop ?_
  | with_reducible refine r_retN ?_
  | with_reducible refine r_ifC ?_
  | with_reducible refine r_ifI ?_
  | with_reducible refine r_if ?_
  | with_reducible refine r_un ?_
  | with_reducible refine r_neg ?_
  | with_reducible refine r_andV ?_
  | with_reducible refine r_orV ?_
  | with_reducible refine r_notV ?_
  | with_reducible refine r_tup ?_
  | with_reducible refine r_lst ?_
  | with_reducible refine r_bm ?_
  | with_reducible refine r_bm0 ?_
  | with_reducible refine r_sl ?_
  | with_reducible refine r_chain ?_
  | with_reducible refine r_listDn ?_
  | with_reducible refine r_listRg2 ?_
  | with_reducible refine r_listRg1 ?_
  | with_reducible refine r_revL ?_
  | with_reducible refine r_noPart ?_
  | with_reducible refine r_meth ?_
  | with_reducible refine r_methE ?_
  | with_reducible refine r_js ?_
  | with_reducible refine r_jsC ?_
  | with_reducible refine r_jsN ?_
  | with_reducible refine r_fmt ?_
  | with_reducible refine r_fld ?_
  | with_reducible refine r_sfld ?_
  | with_reducible refine r_make ?_
  | with_reducible refine r_m1 ?_
  | with_reducible refine r_m1s ?_
  | with_reducible refine r_iS ?_
  | with_reducible refine r_iE ?_
  | with_reducible refine r_si ?_
  | with_reducible refine r_strS ?_
  | with_reducible refine r_dgt ?_
  | with_reducible refine r_din ?_
  | with_reducible refine r_dnin ?_
  | with_reducible refine r_dput ?_
  | with_reducible refine r_dnew ?_
  | with_reducible refine r_disp1 ?_
  | with_reducible refine r_lenSet ?_
  | with_reducible refine r_get2 ?_
  | with_reducible refine r_get1 ?_
  | with_reducible refine r_daug ?_
  | with_reducible refine r_iR3 ?_
  | with_reducible refine r_prC ?_
  | with_reducible refine r_prN ?_
  | with_reducible refine r_part ?_
  | with_reducible refine r_int ?_
  | ((with_reducible refine' r_sameS ?hs ?_); (case hs => exact rfl))
  | ((with_reducible refine' r_otherS ?hs ?_); (case hs => exact rfl))
  | with_reducible refine ite_t ?_
  | with_reducible refine ite_f ?_
  | with_reducible refine ite_nt ?_
  | with_reducible refine ite_nf ?_)
local macro_rules | `(tactic| walk_at "sv") => `(tactic| repeat (walk_at "su"))

section
variable {P : Program} {w : World} {K : PySem.W.Frag} {mg : Str → Option Value} {base : Heap}

/-- a code that the law draws -/
structure CodeD (d : PyData) (rows : List PyData) (a b : Nat) : Prop where
  e : d = .tuple [.list rows, .int (a : Nat), .int (b : Nat)]
  ok : ∀ d ∈ rows, RowR d
  n : rows.length ≤ 20
  a30 : a ≤ 10 ^ 30
  b30 : b ≤ 10 ^ 30
theorem le30n {n : Nat} (h : n < 30) : n ≤ 10 ^ 30 := Nat.le_trans (Nat.le_of_lt h) (by decide)
theorem CodeD.tx {d : PyData} {rows : List PyData} {a b : Nat} (c : CodeD d rows a b) : TxR (lnsC rows a b) := .of (by unfold lnsC; exact List.cons_ne_nil _ _) (lns_tx c.a30 c.b30 c.ok) (by rw [lns_length]; have := c.n; omega)
theorem CodeD.sm {d : PyData} {rows : List PyData} {a b : Nat} (c : CodeD d rows a b) : smallD 7 (.list rows) := small_rows c.ok c.n (by decide)
/-- what stands for a drawn code -/
structure CodeV (S : Addr → Prop) (H : Hp) (y : V) (rows : List PyData) (a b : Nat) : Prop where
  ex : ∃ (q L : Addr), y = .ref q ∧ S q ∧ H q = some (.tup [.ref L, .int (a : Nat), .int (b : Nat)]) ∧ Nw S H (.ref L) (.list rows)
theorem CodeV.of {S : Addr → Prop} {H : Hp} {y : V} {d : PyData} {rows : List PyData} {a b : Nat} (c : CodeD d rows a b) (h : Nw S H y d) : CodeV S H y rows a b := by
  rw [c.e] at h
  obtain ⟨q, xs, rfl, Sq, hq, n⟩ := nw_tupE h
  cases n with
  | cons h1 n => cases n with
    | cons h2 n => cases n with
      | cons h3 n => cases n with
        | nil =>
          cases h2
          cases h3
          obtain ⟨L, lxs, rfl, SL, hL, nL⟩ := nw_lstE h1
          exact ⟨q, L, rfl, Sq, hq, h1⟩
theorem CodeV.keep {S S' : Addr → Prop} {H H' : Hp} {y : V} {rows : List PyData} {a b : Nat} (c : CodeV S H y rows a b) (h : ∀ a o, S a → H a = some o → H' a = some o ∧ S' a) : CodeV S' H' y rows a b := by
  obtain ⟨q, L, rfl, Sq, hq, n⟩ := c.ex
  exact ⟨q, L, rfl, (h _ _ Sq hq).2, (h _ _ Sq hq).1, n.keep h _⟩
theorem CodeV.ext {S : Addr → Prop} {H H' : Hp} {y : V} {rows : List PyData} {a b : Nat} (c : CodeV S H y rows a b) (e : Ext H H') : CodeV S H' y rows a b := c.keep fun a o s z => ⟨e _ _ z, s⟩
theorem sc_law : FnScope ["script", "codes", "texts", "source", "at", "rows", "head", "tail", "code", "told", "lines"] ["script"] (defScope s_law) := ⟨rfl, rfl, rfl, by decide +kernel, rfl, by decide +kernel, by decide +kernel⟩
theorem ok_law (T : Txt w K mg) {fd : FuncData} (D : FunD K "law" "law" (defArgs s_law) (defBody s_law) (defScope s_law) [] [] (He.ga K "law") fd) : FnOk P w K mg base (L2N.CX P w) 15 (He.ga K "law") fd ["script"] (spLaw K) := by
  have c__law_source := ok_law_source (P := P) (base := base) T
  have c__law_pick := ok_law_pick (P := P) (base := base) T
  have c__law_drawn := ok__law_drawn (P := P) (base := base) T
  have c__law_code_text := ok__law_code_text (P := P) (base := base) T
  have c__law_copied := ok_lcopied (P := P) (base := base) T 7
  have c_ReadCode_init := ok_ReadCode_init (P := P) (base := base) T
  have c_ReadCode_rows := ok_ReadCode_rows (P := P) (base := base) T
  have c__law_same := ok_law_same (P := P) (base := base) T 8
  have c_code_text := ok_code_text (P := P) (base := base) T
  have c__law_read := ok__law_read (P := P) (base := base) T
  have c__law_spoilt_text := ok__law_spoilt_text (P := P) (base := base) T
  have c__law_no_text := ok__law_no_text (P := P) (base := base) T
  have c__law_bounds := ok__law_bounds (P := P) (base := base) T
  refine D.ok sc_law (fun vs H Q E h => by obtain ⟨c, ns, rfl, _⟩ := h; rfl) (fun cdv A outer s H vs Q E hr h => ?_)
  have nd := sc_law.nd
  have hu := hu64 hr
  have hu1 := hu1 hr
  obtain ⟨a0, ns, rfl, hns, hl, k⟩ := h
  refine ⟨_, (pss_cons (ps_setLc (i := 1) (own := [("at", 4)]) rfl nd rfl rfl (sw_true rfl rfl rfl (by decide +kernel)) (pi_range1 (by rfl) T.f_range (pa_cons pe_int pa_nil)) (blkOk_by (N := ["script", "codes", "texts", "source", "at", "rows", "head", "tail", "code", "told", "lines"]) (sc := defScope s_law) (by decide +kernel)) (fun _ _ _ _ _ => (pg_name (i := 4) nd rfl (Or.inl rfl))) (fun _ _ _ _ _ => pts_nil) (fun _ _ _ _ _ => (pe_cal c__law_drawn hr (by omega) passN (pa_cons (pe_cal c__law_source hr (by omega) passN (pa_cons (pv 0) (pa_cons (pv 4) pa_nil))) pa_nil))))
        (pss_cons (ps_setLc (i := 2) (own := [("rows", 5), ("head", 6), ("tail", 7)]) rfl nd rfl rfl (sw_true rfl rfl rfl (by decide +kernel)) (piL (K := K) (pv 1)) (blkOk_by (N := ["script", "codes", "texts", "source", "at", "rows", "head", "tail", "code", "told", "lines"]) (sc := defScope s_law) (by decide +kernel)) (fun _ _ _ _ _ => (pgT (K := K) (pg_tup (n := 3) rfl (pgs_cons (pg_name (i := 5) nd rfl (Or.inl rfl)) (pgs_cons (pg_name (i := 6) nd rfl (Or.inl rfl)) (pgs_cons (pg_name (i := 7) nd rfl (Or.inl rfl)) pgs_nil)))))) (fun _ _ _ _ _ => pts_nil) (fun _ _ _ _ _ => (pe_cal c__law_code_text hr (by omega) passN (pa_cons (pv 5) (pa_cons (pv 6) (pa_cons (pv 7) pa_nil))))))
        (pss_cons (ps_set (i := 3) nd rfl (Or.inl rfl) (pe_cal c__law_source hr (by omega) (fun σ => L2N.passAt (L2N.takes_of rfl rfl rfl rfl) σ) (pa_cons (pv 0) (pa_cons pe_int pa_nil))))
        (pss_cons (ps_for (passes_of rfl) rfl (piL (K := K) (pe_lst (pa_cons pe_int (pa_cons pe_int (pa_cons pe_int pa_nil))))) (pg_name (i := 4) nd rfl (Or.inl rfl)) (pss_cons (ps_asg (pe_ix (ixK (K := K)) (pv 1) (pv 4) (fun _ _ => rfl)) (pgT (K := K) (pg_tup (n := 3) rfl (pgs_cons (pg_name (i := 5) nd rfl (Or.inl rfl)) (pgs_cons (pg_name (i := 6) nd rfl (Or.inl rfl)) (pgs_cons (pg_name (i := 7) nd rfl (Or.inl rfl)) pgs_nil))))))
        (pss_cons (ps_set (i := 8) nd rfl (Or.inl rfl) (pe_mkGK (K := K) T.mk_ReadCode T.g_ReadCode c_ReadCode_init hr (by omega) (pa_cons (pe_cal c__law_copied hr (by omega) (fun σ => L2N.passAt (L2N.takes_of rfl rfl rfl rfl) σ) (pa_cons (pv 5) pa_nil)) (pa_cons (pv 6) (pa_cons (pv 7) pa_nil)))))
        (pss_cons (ps_set (i := 9) nd rfl (Or.inl rfl) (pe_calM0K (K := K) T.c_ReadCode T.mt_ReadCode_rows c_ReadCode_rows hr (by omega) (pv 8)))
        (pss_cons (ps_expr (peBM (K := K) (pe_bm PySem.F.plainAttrs_list PySem.F.slot_list_append PySem.F.type_list_append mt_append (pv 9) (pa_cons pe_non pa_nil))))
        (pss_cons (ps_if (PW.pt (pw_or (pt_not (pt_val (pe_cal c__law_same hr (by omega) (fun σ => L2N.passAt (L2N.takes_of rfl rfl rfl rfl) σ) (pa_cons (pe_calM0K (K := K) T.c_ReadCode T.mt_ReadCode_rows c_ReadCode_rows hr (by omega) (pv 8)) (pa_cons (pv 5) pa_nil))))) (pw_or1 (pt_not (pt_val (pe_cal c__law_same hr (by omega) (fun σ => L2N.passAt (L2N.takes_of rfl rfl rfl rfl) σ) (pa_cons (pe_cal c_code_text hr (by omega) (fun σ => L2N.passAt (L2N.takes_of rfl rfl rfl rfl) σ) (pa_cons (pv 8) pa_nil)) (pa_cons (pe_ix (ixK (K := K)) (pv 2) (pv 4) (fun _ _ => rfl)) pa_nil)))))))) (pss_one (ps_ret pe_bl)) pss_nil)
        (pss_one (ps_if (pt_not (pt_val (pe_cal c__law_same hr (by omega) (fun σ => L2N.passAt (L2N.takes_of rfl rfl rfl rfl) σ) (pa_cons (pe_cal c__law_read hr (by omega) (fun σ => L2N.passAt (L2N.takes_of rfl rfl rfl rfl) σ) (pa_cons (pe_ix (ixK (K := K)) (pv 2) (pv 4) (fun _ _ => rfl)) pa_nil)) (pa_cons (pe_lst (pa_cons (pv 5) (pa_cons (pv 6) (pa_cons (pv 7) pa_nil)))) pa_nil))))) (pss_one (ps_ret pe_bl)) pss_nil))))))))
        (pss_cons (ps_set (i := 10) nd rfl (Or.inl rfl) (pe_splitK (pe_ix (ixK (K := K)) (pv 2) pe_int (fun _ _ => rfl)) pe_str))
        (pss_cons (ps_if (PW.pt (pw_or (pt_not (pt_val (pe_cal c__law_spoilt_text hr (by omega) (fun σ => L2N.passAt (L2N.takes_of rfl rfl rfl rfl) σ) (pa_cons (pv 3) (pa_cons (pv 10) pa_nil))))) (pw_or1 (pt_not (pt_val (pe_cal c__law_spoilt_text hr (by omega) (fun σ => L2N.passAt (L2N.takes_of rfl rfl rfl rfl) σ) (pa_cons (pv 3) (pa_cons (pe_splitK (pe_ix (ixK (K := K)) (pv 2) pe_int (fun _ _ => rfl)) pe_str) pa_nil)))))))) (pss_one (ps_ret pe_bl)) pss_nil)
        (pss_cons (ps_if (pt_not (pt_val (pe_cal c__law_no_text hr (by omega) (fun σ => L2N.passAt (L2N.takes_of rfl rfl rfl rfl) σ) (pa_cons (pv 3) (pa_cons (pe_ix (ixK (K := K)) (pe_ix (ixK (K := K)) (pv 1) pe_int (fun _ _ => rfl)) pe_int (fun _ _ => rfl)) pa_nil))))) (pss_one (ps_ret pe_bl)) pss_nil)
        (pss_one (ps_ret (pe_ifExp (pt_cmpR (sameK (K := K) hu) (pe_cal c__law_pick hr (by omega) (fun σ => L2N.passAt (L2N.takes_of rfl rfl rfl rfl) σ) (pa_cons (pv 3) (pa_cons pe_int pa_nil))) pe_int (nomark _)) (pe_cal c__law_bounds hr (by omega) (fun σ => L2N.passAt (L2N.takes_of rfl rfl rfl rfl) σ) (pa_cons (pv 3) (pa_cons (pv 10) pa_nil))) pe_bl)))))))))), ?_⟩
  walk_at "st"
  intro D hD
  refine lcW_range (fun i G => Ext H G ∧ ∃ ys ds, G D = some (.lst ys) ∧ ys.length = i ∧ Nws (fun b => b ≠ D) G ys ds ∧ ∀ d ∈ ds, ∃ rows a b, CodeD d rows a b) ⟨.new hD, [], [], upd_same, rfl, .nil, fun _ h => nomatch h⟩ ?_ ?_
  · rintro i G hi ⟨eG, ys, ds, hys, yl, nys, pds⟩
    walk_at "st"
    refine r_lcW rfl ?_
    walk_at "st"
    refine ⟨a0, ns, i, by rw [Int.zero_add], eG.l hns, hl, by omega, fun p H1 hp e1 s1 => ?_⟩
    walk_at "st"
    refine ⟨p, rfl, s1, fun q L rows a b H2 hR lR ha hb s2 b12 qp hq h2 w2 => ?_⟩
    have e2 : Ext G H2 := fun c o h => b12 _ _ (ne_of_none h hp) (e1 _ _ h)
    have D1 : H1 D = some (.lst ys) := e1 _ _ hys
    have qD : q ≠ D := fun z => by rw [z, D1] at hq; cases hq
    refine ⟨ys, e2 _ _ hys, by rw [yl, sizeLine_eq]; have : i < 2 := hi; omega, Ext.mut (eG.trans e2) hD, ys ++ [.ref q], ds ++ [.tuple [.list rows, .int (a : Nat), .int (b : Nat)]], upd_same, by rw [List.length_append, yl]; rfl, ?_, ?_⟩
    · have kp : ∀ (a : Addr) (o : HO), a ≠ D → H2 a = some o → upd H2 D (.lst (ys ++ [.ref q])) a = some o ∧ a ≠ D := fun a o s z => ⟨by rw [upd_ne s]; exact z, s⟩
      refine ((Nws.ext e2 nys).keep kp _).append (.cons (.tup qD (by rw [upd_ne qD]; exact h2) (.cons (w2.keep (fun a o s z => ?_) _) (.cons (.int _) (.cons (.int _) .nil)))) .nil)
      have aD : a ≠ D := fun z => by rw [z, D1] at s; cases s
      exact ⟨by rw [upd_ne aD]; exact z, aD⟩
    · intro d hd
      rcases List.mem_append.mp hd with hd | hd
      · exact pds d hd
      · exact ⟨rows, a, b, List.mem_singleton.mp hd, hR, lR, le30n ha, le30n (by omega)⟩
  rintro G1 ⟨e1, ys, ds, hys, yl, nys, pds⟩
  obtain ⟨y0, y1, rfl⟩ : ∃ y0 y1, ys = [y0, y1] := match ys, yl with
    | [y0, y1], _ => ⟨y0, y1, rfl⟩
  obtain ⟨R0, A0, B0, R1, A1, B1, d0, d1, c0, c1, v0, v1⟩ : ∃ (R0 : List PyData) (A0 B0 : Nat) (R1 : List PyData) (A1 B1 : Nat) (d0 d1 : PyData), CodeD d0 R0 A0 B0 ∧ CodeD d1 R1 A1 B1 ∧ CodeV (fun b => b ≠ D) G1 y0 R0 A0 B0 ∧ CodeV (fun b => b ≠ D) G1 y1 R1 A1 B1 := by
    cases nys with
    | cons h0 n => cases n with
      | cons h1 n => cases n with
        | nil =>
          obtain ⟨R0, A0, B0, c0⟩ := pds _ List.mem_cons_self
          obtain ⟨R1, A1, B1, c1⟩ := pds _ (List.mem_cons_of_mem _ List.mem_cons_self)
          exact ⟨R0, A0, B0, R1, A1, B1, _, _, c0, c1, .of c0 h0, .of c1 h1⟩
  clear nys pds
  have both : ∀ {i : Nat} {y : V}, ([y0, y1] : List V)[i]? = some y → ∃ (R : List PyData) (A B : Nat) (d : PyData), CodeD d R A B ∧ CodeV (fun b => b ≠ D) G1 y R A B ∧ ([V.str (txtC R0 A0 B0), V.str (txtC R1 A1 B1)] : List V)[i]? = some (.str (txtC R A B)) := fun {i y} h => by
    match i, h with
    | 0, h => cases h; exact ⟨R0, A0, B0, d0, c0, v0, rfl⟩
    | 1, h => cases h; exact ⟨R1, A1, B1, d1, c1, v1, rfl⟩
  walk_at "st"
  refine r_li (sqL hys) ?_
  intro D2 hD2
  refine lcW_list (fun i G => Ext G1 G ∧ G D2 = some (.lst (([V.str (txtC R0 A0 B0), V.str (txtC R1 A1 B1)] : List V).take i))) ⟨.new hD2, upd_same⟩ (fun i G _ h => sqL (h.1 _ _ hys)) ?_ ?_
  · rintro i y G hy ⟨eG, hG⟩
    obtain ⟨R, A, B, d, c, v, ht⟩ := both hy
    obtain ⟨q, L, rfl, Sq, hq, nL⟩ := (v.ext eG).ex
    walk_at "st"
    refine r_gtup (sqT hq) rfl ?_
    walk_at "st"
    refine r_lcW rfl ?_
    walk_at "st"
    refine ⟨.ref L, R, A, B, rfl, nL.dp _, c.ok, by have := c.n; omega, c.a30, c.b30, fun G2 e2 => ?_⟩
    refine ⟨_, e2 _ _ hG, by rw [sizeLine_eq, List.length_take]; show min i 2 < _; omega, Ext.mut (eG.trans e2) hD2, ?_⟩
    rw [upd_same, List.take_succ, ht]
    rfl
  rintro G2 ⟨e12, hD2t⟩
  have hD2t : G2 D2 = some (.lst ([V.str (txtC R0 A0 B0), V.str (txtC R1 A1 B1)])) := hD2t
  walk_at "st"
  refine ⟨a0, ns, 2, rfl, (e1.trans e12).l hns, hl, by omega, fun p G3 hp e3 sp => ?_⟩
  have e13 := e12.trans e3
  walk_at "st"
  intro lf G4 hlf e4 h4
  walk_at "st"
  refine r_li (sqL h4) ?_
  have e14 := e13.trans e4
  refine forW_list (fun j σ' G => ∃ v4 v5 v6 v7 v8 v9 : Option V, σ' = [some (.ref a0), some (.ref D), some (.ref D2), some (.ref p), v4, v5, v6, v7, v8, v9, none] ∧ Ext G4 G) ⟨_, _, _, _, _, _, rfl, .rfl⟩ (fun j σ' G _ ⟨_, _, _, _, _, _, _, e⟩ => sqL (e _ _ h4)) ?_ ?_
  · rintro j yj σ' G hyj ⟨v4, v5, v6, v7, v8, v9, rfl, eG⟩
    obtain ⟨z, rfl, hz⟩ : ∃ z : Nat, yj = .int (z : Nat) ∧ z < 2 := by
      match j, hyj with
      | 0, h => cases h; exact ⟨0, rfl, by decide⟩
      | 1, h => cases h; exact ⟨1, rfl, by decide⟩
      | 2, h => cases h; exact ⟨0, rfl, by decide⟩
    obtain ⟨y, hy⟩ : ∃ y, ([y0, y1] : List V)[z]? = some y := ⟨_, List.getElem?_eq_getElem (show z < [y0, y1].length from hz)⟩
    obtain ⟨R, A, B, d, c, v, ht⟩ := both hy
    have eG1 := e14.trans eG
    obtain ⟨q, L, rfl, Sq, hq, nL⟩ := (v.ext eG1).ex
    walk_at "st"
    refine r_atL (sqL (eG1 _ _ hys)) (atI_nat hy) ?_
    refine r_gtup (sqT hq) rfl ?_
    walk_at "st"
    refine ⟨.ref L, .list R, rfl, nL.dp _, c.sm, fun yc H1 f1 w1 => ?_⟩
    walk_at "st"
    refine r_mk fun o dx H2 hoN hdN f2 ins => ?_
    refine ⟨o, dx, yc, R, A, B, rfl, ins, (nw_ext w1 f2).dp _, c.sm, fun H3 m3 cAt => ⟨rfl, ?_⟩⟩
    have f3 : Ext G H3 := fun b ob h => m3 _ _ (ne_of_none (f1 _ _ h) hoN) (f2 _ _ (f1 _ _ h))
    walk_at "st"
    obtain ⟨dx', yr, ins', nw⟩ := id cAt.ex
    refine r_mt ins' rfl (r_nil ?_)
    refine ⟨_, o, R, A, B, rfl, cAt, c.sm, fun tl H4 f4 w4 => ?_⟩
    obtain ⟨tla, txs, rfl, tlN, htl, nTx⟩ := nw_lstE w4
    have tl20 := nTx.len
    walk_at "st"
    refine ⟨.inl ⟨rfl, _, sqL htl⟩, ?_⟩
    walk_at "st"
    refine r_app htl (by have := c.n; omega) (fun H5 h5 n5 => ?_)
    have f35 : Ext H3 H5 := fun b ob h => (n5 _ (ne_of_none h tlN)).trans (f4 _ _ h)
    have cAt5 : CodeAt K _ H5 o R A B := ⟨dx', yr, f35 _ _ ins', nw_ext nw f35⟩
    have f5 := f3.trans f35
    walk_at "st"
    refine r_mt (f35 _ _ ins') rfl (r_nil ?_)
    refine ⟨_, o, R, A, B, rfl, cAt5, c.sm, fun y6 H6 f6 w6 => ?_⟩
    walk_at "st"
    refine ⟨y6, .ref L, .list R, rfl, w6.dp _, (f5.trans f6).dp _ (nL.dp _), small_mono (by decide) c.sm, fun H7 f7 => ?_⟩
    walk_at "st"
    have f57 := f6.trans f7
    have cAt7 : CodeAt K _ H7 o R A B := ⟨dx', yr, f57 _ _ (f35 _ _ ins'), nw_ext nw (f35.trans f57)⟩
    refine ⟨_, o, R, A, B, rfl, cAt7, c.sm, c.a30, c.b30, .inl ⟨c.ok, by have := c.n; omega, fun H8 f8 => ?_⟩⟩
    have g8 := (f5.trans f57).trans f8
    have D2at : ∀ {H' : Hp}, Ext G H' → H' D2 = some (.lst ([V.str (txtC R0 A0 B0), V.str (txtC R1 A1 B1)])) := fun e => e _ _ (eG _ _ (e4 _ _ (e3 _ _ hD2t)))
    walk_at "st"
    refine r_atL (sqL (D2at g8)) (atI_nat ht) ?_
    walk_at "st"
    refine ⟨_, _, .str (txtC R A B), rfl, .str _, .str _, small_str 7 _, fun H9 f9 => ?_⟩
    have g9 := g8.trans f9
    walk_at "st"
    refine r_atL (sqL (D2at g9)) (atI_nat ht) ?_
    walk_at "st"
    refine c.tx.read fun y10 H10 f10 d10 => ?_
    rw [codeF_ok c.ok (by have := c.n; omega) c.a30 c.b30] at d10
    have d10 : Dp K H10 y10 (.list [.list R, .int (A : Nat), .int (B : Nat)]) := d10
    walk_at "st"
    intro u11 H11 hu11 f11 h11
    walk_at "st"
    refine ⟨y10, .ref u11, .list [.list R, .int (A : Nat), .int (B : Nat)], rfl, f11.dp _ d10, .lst (sqL h11) (.cons (((g9.trans f10).trans f11).dp _ (nL.dp _)) (.cons (.int _) (.cons (.int _) .nil))), small_list (by show 3 ≤ 100000; decide) (fun e he => ?_), fun H12 f12 => ?_⟩
    · rcases List.mem_cons.mp he with rfl | he
      · exact c.sm
      · rcases List.mem_cons.mp he with rfl | he
        · exact small_int 6 _
        · rw [List.mem_singleton.mp he]; exact small_int 6 _
    walk_at "st"
    exact ⟨_, _, _, _, _, _, rfl, eG.trans (((g9.trans f10).trans f11).trans f12)⟩
  rintro σ' G5 ⟨v4, v5, v6, v7, v8, v9, rfl, e5⟩
  have e15 := e14.trans e5
  have s5 := sp.ext (e4.trans e5)
  have pN : ∀ (a : Addr) (o : HO), G1 a = some o → a ≠ p := fun a o h => ne_of_none (e12 _ _ h) hp
  have w0 : CodeV (fun b => b ≠ p) G5 y0 R0 A0 B0 := v0.keep fun a o s z => ⟨e15 _ _ z, pN _ _ z⟩
  have hD5 := e15 _ _ hys
  have Dp : D ≠ p := pN _ _ hys
  have hT5 : G5 D2 = some (.lst ([V.str (txtC R0 A0 B0), V.str (txtC R1 A1 B1)])) := e5 _ _ (e4 _ _ (e3 _ _ hD2t))
  have D2p : D2 ≠ p := ne_of_none hD2t hp
  have tl : ∀ {R A B d}, CodeD d R A B → (txtC R A B).length ≤ 16000000 := fun c => Nat.le_trans c.tx.tlen (by decide)
  have c0' := c0
  have nR0 := c0.n
  have nR1 := c1.n
  walk_at "st"
  refine r_atL (sqL hT5) (atI_nat (j := 0) rfl) ?_
  walk_at "st"
  refine r_split rfl (tl c0) (fun Ls G6 hLs e6 h6 => ?_)
  rw [show Txt.split (txtC R0 A0 B0) (Str.ofString "\n") = lnsC R0 A0 B0 from c0.tx.split] at h6
  have s6 := s5.ext e6
  have Lsp : Ls ≠ p := (src_ne s5 hLs).symm
  walk_at "st"
  refine ⟨p, Ls, R0, A0, B0, rfl, s6, h6, c0.ok, by omega, c0.a30, c0.b30, fun G7 s7 b7 => ?_⟩
  have b57 := (But.rfl.ext e6).trans b7
  walk_at "st"
  refine r_atL (sqL (b57 _ _ D2p hT5)) (atI_nat (j := 1) rfl) ?_
  walk_at "st"
  refine r_split rfl (tl c1) (fun Ls2 G8 hLs2 e8 h8 => ?_)
  rw [show Txt.split (txtC R1 A1 B1) (Str.ofString "\n") = lnsC R1 A1 B1 from c1.tx.split] at h8
  walk_at "st"
  refine ⟨p, Ls2, R1, A1, B1, rfl, s7.ext e8, h8, c1.ok, by omega, c1.a30, c1.b30, fun G9 s9 b9 => ?_⟩
  have b79 := (But.rfl.ext e8).trans b9
  have b59 := b57.trans b79
  walk_at "st"
  have w9 : CodeV (fun b => b ≠ p) G9 y0 R0 A0 B0 := w0.keep fun a o s z => ⟨b59 _ _ s z, s⟩
  obtain ⟨q, L, rfl, Sq, hq, nL⟩ := w9.ex
  refine r_atL (sqL (b59 _ _ Dp hD5)) (atI_nat (j := 0) rfl) ?_
  walk_at "st"
  refine r_atT (sqT hq) (atI_nat (j := 0) rfl) ?_
  walk_at "st"
  refine ⟨p, L, R0, rfl, s9, nL, c0.ok, by omega, fun G10 s10 b10 => ?_⟩
  walk_at "st"
  refine ⟨p, 3, rfl, s10, by decide, by decide, fun r G11 r0 r3 s11 n11 => ?_⟩
  have h11 := stay n11 Lsp ((b79.trans b10) _ _ Lsp (b7 _ _ Lsp h6))
  walk_at "st"
  refine ite_d (fun cz => ?_) (fun cz => ?_)
  · walk_at "st"
    refine ⟨p, Ls, R0, A0, B0, rfl, s11, h11, c0.ok, by omega, c0.a30, c0.b30, fun G12 s12 b12 => ?_⟩
    exact k G12
  · walk_at "st"
    exact k _

end
end K35

theorem PySem.Challenge.cw_toldoutside_k35_texts_of_codes_holds : PySem.Challenge.rw_toldoutside_k35_texts_of_codes.Holds :=
  K35.law_of 15 ⟨rfl, by decide, by decide⟩ fun w K mg base _ _ T fd D => K35.ok_law T D
