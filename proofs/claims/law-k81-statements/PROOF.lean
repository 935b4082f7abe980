import PyProof.Rows.All
import Wide.All
import OpenK.AllK
import Wide.FinOn
import KE.KStateDown
import KE.KIsAll
import KE.KTryMore
import HandS.ForMost
import HandS.Exc
import HandS.TryOnly
import HandS.ExcOwn
import HandS.ExcInit
import HandS.ExcIs
import HandS.IsInst
import HandS.HotCalls
import HandS.Style
import HandS.Zip
import HandS.WordsExc
import HandS.Defaults
import HandS.Head0
import HandS.Head1
import HandS.Head2
import HandS.HeadEnd
import HandS.HeadHook1
import HandS.HeadHook2
import PySem.Challenge.RW_pacehall_k81_statements
set_option Elab.async false
set_option linter.all false
set_option maxRecDepth 100000
set_option maxHeartbeats 4000000
/-! Pacehall, the law of statements: rules of our own over the layer, heaps. -/
namespace K81
open PySem PySem.Spec PyProof.Rows L2

/-! ### rules of our own -/
/-- isinstance asks the class of an exception that bears a dict, too -/
theorem findObj_dataD {K : PySem.W.Frag} {C : Addr} {od : Option Obj} {name : Str} {a g : Value} (hc : (PySem.W.clsIn K C).isSome = true) (ha : PySem.W.findIn K (.ref C) name = some (some a))
    (hg : PySem.W.specialIn K a "__get__" = some (some g)) (ht : PySem.W.takesIn K a = some true) : PySem.W.findObj K C od name = some (.bind g a) := by
  obtain ⟨cd, hc⟩ := Option.isSome_iff_exists.mp hc
  unfold PySem.W.findObj
  rw [hc, Option.bind_some, ha, Option.bind_some]
  simp [hg, ht]
section
open PySem.W PySem.Calls
variable {prog : Program} {w : World} {A : Around} {E : Value → Shared → Prop} {s : Shared} {K : Frag} {x D : Addr} {ox : Obj} {od : Option Obj}
theorem class_of_exc {Q : Option Value → Shared → Prop} (T : ExcC K D)
    (X : K.In s.heap) (I : PySem.W.InstAt s.heap x ox D od) (h : Q (some (.ref D)) { s with toks := s.toks + 1 }) : wpAny (model prog w) A (getAttr? (.ref x) "__class__") Q E s := by
  have hf : findObj K D od "__class__" = some (.bind (.builtin "getset_descriptor.__get__") (.builtin "object.__class__")) := findObj_dataD (by obtain ⟨cd, hc, _⟩ := any_some T.hd; rw [hc]; rfl) T.ha T.hn T.ht
  obtain ⟨hp, g, d, t, os⟩ := s
  have L0 := I.type (M := model prog w)
  have L1 := looks_findIn (M := model prog w) X T.hg
  have L2 := looks_findIn (M := model prog w) X T.hk
  have L3 := looks_find (M := model prog w) X I hf
  have sub : Looks (model prog w) hp (isInstance (.ref x) (.type "BaseException")) true := L0.andThen (looks_subIn X T.hs)
  have hx0 : (false && onTheHeap (Value.builtin "BaseException.__getattribute__")) = false := rfl
  have hx2 : (Value.builtin "BaseException.__getattribute__" == Value.builtin "object.__getattribute__") = false := by decide +kernel
  have hx1 : (onTheHeap (Value.ref D) && Value.builtin "BaseException.__getattribute__" == Value.builtin "object.__getattribute__") = false := by rw [hx2]; rfl
  unfold getAttr? getAttrBy? getAttrBy
  refine wpAny_bind (wpAny_mkText (wpAny_bind (wpAny_attempt (wpAny_holding (wpAny_bind (L0.at (wpAny_bind (L1.at ?_))))))))
  show wpAny _ _ (if (onTheHeap (Value.ref D) && Value.builtin "BaseException.__getattribute__" == Value.builtin "object.__getattribute__") = true then _ else _) _ _ _
  rw [hx1, if_neg Bool.false_ne_true]
  unfold getAttrByItsOwn hookBefore
  refine wpAny_bind ?_
  rw [if_pos (show onTheHeap (Value.ref D) = true from rfl)]
  refine L2.at ?_
  refine wpAny_bind (wpAny_attempt (wpAny_holding ?_))
  unfold callGetattribute
  rw [hx0, if_neg Bool.false_ne_true]
  unfold boundAndCalled
  rw [PySem.F.excAttr_ValueError.ga.bind (.ref x)]
  refine wpAny_bind (wpAny_pure ?_)
  show wpAny _ _ (call (.builtin "BaseException.__getattribute__") [.ref x, .str "__class__" t]) _ _ _
  refine wpAny_call (codeAny_call_builtin PySem.F.excAttr_ValueError.ga.plain PySem.F.entry_bexc_ga ?_)
  refine @check_slot (model prog w) _ _ ⟨hp, g, d, t + 1, os⟩ "BaseException.__getattribute__" "BaseException" "__getattribute__" (.ref x) [.str "__class__" t] [] _ (by decide +kernel) (by decide +kernel) sub (PySem.F.args_bexc_ga (.ref x) (.str "__class__" t)) ?_
  unfold Builtin.«object.__getattribute__»
  refine wpAny_bind (wpAny_of_eq (a := ((Value.ref x : Value), [Value.str "__class__" t])) (by first | rfl | (simp only [slotArgs]; rfl)) ?_)
  refine wpAny_bind (wpAny_pure (wpAny_bind (L0.at (wpAny_bind (L3.at ?_)))))
  show wpAny _ _ (holding [Value.builtin "object.__class__"] (call (.builtin "getset_descriptor.__get__") [.builtin "object.__class__", .ref x, .ref D]) >>= ret) _ _ _
  refine wpAny_bind (wpAny_holding (wpAny_call (class_get (s := ⟨hp, g, d, t + 1, os⟩) (ox := ox) (od := od) X I T.hm ?_)))
  refine wpAny_pure ?_
  show wpAny _ _ (handedOut (.ref D)) _ _ _
  rw [handedOut_of (v := .ref D) rfl]
  first
    | exact wpAny_pure (wpAny_pure h)
    | exact wpAny_pure h
    | exact wpAny_pure (wpAny_bind (wpAny_pure (wpAny_pure h)))
theorem kitx_exd (T : ExcC K D) : KitX K (.ref x) (.ref D) (fun h => PySem.W.InstAt h x ox D od) where
  ty := fun _ _ _ I => I.type
  it := fun _ _ X _ => by
    obtain ⟨cdD, hcD, _⟩ := any_some T.hd
    unfold clsIn at hcD
    split at hcD
    · rename_i c' d' cd' sl' ho
      intro A' Q' E' s' k q
      unfold isType loadHead
      exact wpAny_bind (wpAny_loadPart (k _ _ (X _ _ ho)) (wpAny_pure q))
    · cases hcD
  ne := fun h tp dd its n sl X htp => by
    obtain ⟨cdD, hcD, _⟩ := any_some T.hd
    refine Bool.eq_false_iff.mpr fun q => ?_
    have e : D = tp := Value.ref.inj (beq_iff_eq.mp q)
    subst e
    unfold clsIn at hcD
    split at hcD
    · rename_i c' d' cd' sl' ho
      have z := (X _ _ ho).symm.trans htp
      cases z
    · cases hcD
  ca := fun X I k => class_of_exc T X I k
end
/-- isinstance(e, c), e an exception that is pinned at a: its class D, its dict d -/
def rIsP (K : PySem.W.Frag) (D a : Addr) (d : Option Addr) : List V → Hp → VK → Prop := fun xs H Q => ∃ (c : V) (cv : Value) (b : Bool), xs = [.ref a, c] ∧ (d = none ∨ ∃ dd fs, d = some dd ∧ H dd = some (.xd fs)) ∧ (∀ u, RelV c u → u = cv) ∧
  PySem.W.kitOne K (.ref D) cv = some b ∧ Q (.bl b) H
theorem call_isP {X : Cx} {a D : Addr} {oe : Obj} {d : Option Addr} (C : ExcC X.K D) (hp : (a, oe) ∈ X.pn) (hz : Zc (.ref D) d oe) (hf : ∃ vs, oe.data = .fields vs) : CallR X (.builtin "isinstance") (rIsP X.K D a d) := by
  intro pins s σ H xs us Q I r h
  obtain ⟨c, cv, b, rfl, hd, hcv, e, q⟩ := h
  cases r with
  | cons rx rr =>
    cases rr with
    | cons rt rr =>
      cases rr
      cases rx
      have ec := hcv _ rt
      subst ec
      obtain ⟨hget, _⟩ := I.pin (a, oe) (List.mem_append.mpr (.inl hp))
      obtain ⟨vs, hv⟩ := hf
      obtain ⟨od, J⟩ : ∃ od, PySem.W.InstAt s.heap a oe D od := by
        obtain ⟨oc, odi, oda, osl⟩ := oe
        obtain ⟨h1, h2⟩ := hz
        dsimp only at h1 h2 hv
        subst h1 h2 hv
        rcases hd with hd | ⟨dd, fs, hd, hx⟩
        · subst hd
          exact ⟨none, hget, rfl, rfl, trivial⟩
        · subst hd
          obtain ⟨mA, ⟨o, es, ep, ho, _⟩, _⟩ := (show ObjOk X.prog X.w H s.heap dd (.xd fs) from I.hok dd _ hx)
          exact ⟨some o, hget, rfl, rfl, ho⟩
      exact PySem.W.kia_one (kitx_exd C) I.kIn J e (fun z => nomatch z) fun tk => ⟨.bl b, H, I.kept (t' := tk) fun _ _ z => z, rfl, q⟩
/-- e.f, e the pinned exception -/
theorem pe_xfP {X : Cx} {a C : Addr} {oe : Obj} {d : Option Addr} {e : Expr} {te : TE} {pos : Pos} {n : Str} (T : ExcC X.K C) (hno : PySem.W.findIn X.K (.ref C) n = some none) (hp : (a, oe) ∈ X.pn)
    (hz : Zc (.ref C) d oe) (hf : ∃ vs, oe.data = .fields vs) (he : PE X e te) (hb : attributeBase e n X.env (eval e X.env) = eval e X.env := by rfl) :
    PE X (.Attribute e n pos) (fun σ H Q => te σ H fun x H1 => x = .ref a ∧ ∃ (dd : Addr) (fs : List (Str × V)) (v : V), d = some dd ∧ H1 dd = some (.xd fs) ∧ fs.lookup n = some v ∧ Q v H1) := by
  refine ⟨fun pins s σ H Q I h => ?_⟩
  refine attr_of hb (thn (he.run pins s σ H _ I h) fun u s1 hh => ?_)
  obtain ⟨x, H1, I1, rx, ex, dd, fs, v, ed, ea, l, q⟩ := hh
  subst ex
  obtain rfl : u = Value.ref a := rx
  subst ed
  obtain ⟨ha, _⟩ := I1.pin (a, oe) (List.mem_append_left _ hp)
  obtain ⟨vs, hd⟩ := hf
  have hx : ObjOk X.prog X.w H1 s1.heap dd (.xd fs) := I1.hok dd _ ea
  obtain ⟨mA, hns, hr⟩ := hx
  obtain ⟨od, ho, hl⟩ := lookIn_ns hns
  obtain ⟨u, hu, ru⟩ := RelO.some_of (v := v) (o := mA n) (by rw [← l]; exact hr n)
  have J : PySem.W.InstAt s1.heap a oe C (some od) := ⟨ha, hz.1, by unfold PySem.W.notCls; rw [hd] <;> rfl, by rw [hz.2]; exact ho⟩
  exact PySem.HandSPX.exc_get I1.kIn J T.hg T.hk T.hs (PySem.W.findObj_own T.hd hno rfl (by rw [hl, hu])) (handed_of ru) ⟨v, H1, I1.tok _, ru, q⟩

/-! ### a def that is called while an exception is pinned -/
structure FnPin (P : Program) (w : World) (K : PySem.W.Frag) (mg : Str → Option Value) (base : Heap) (k : Nat) (f : Addr) (fd : FuncData) (ps : List Str) (sp : Addr → Value → Option Addr → Sp) : Prop where
  len : ∀ a c d vs H Q E, sp a c d vs H Q E → vs.length = ps.length
  run : ∀ (A : Around) (outer : List Env) (s : Shared) (H : Hp) (args : Args) (us : List Value) (vs : List V) (Q : VK) (E : XK) (p : Addr × Obj) (cls : Value) (d : Option Addr), L2H.RoomH k A → L2H.PinOk outer H s p → Zc cls d p.2 → (∃ vs, p.2.data = .fields vs) → Env0 P w K mg base A outer s H → BindsTo s fd args (ps.zip us) → Vals vs us → sp p.1 cls d vs H Q E →
    codeAny (model P w) A (.call (.ref f) args) (CR CX0 outer P w H s Q E) s
theorem fn_pin {P : Program} {w : World} {K : PySem.W.Frag} {mg : Str → Option Value} {base : Heap} {k : Nat} {f : Addr} {name qual : Str} {params : Arguments} {body : List Stmt} {scope : Scope} {dV kV doc pm cdv ct oc : Value} {an od : Option Addr}
    {osl : Array (Option Value)} {N ps : List Str} {sp : Addr → Value → Option Addr → Sp} (lk : K.lookup f = some ⟨oc, od, .func (PySem.W.fnOf name qual params body scope dV kV doc pm an cdv ct), osl⟩) (hcd : PySem.W.codeIn K cdv qual = true) (S : FnScope N ps scope)
    (len : ∀ a c d vs H Q E, sp a c d vs H Q E → vs.length = ps.length)
    (hbody : ∀ (A : Around) (outer : List Env) (s : Shared) (H : Hp) (vs : List V) (Q : VK) (E : XK) (p : Addr × Obj) (cls : Value) (d : Option Addr), L2H.RoomH k (A.deeper (envOfC qual scope s.heap.objs.size f cdv)) → Zc cls d p.2 → (∃ vs, p.2.data = .fields vs) → sp p.1 cls d vs H Q E →
      ∃ t, PSs (L2H.cxH CX0 P w K mg base N qual scope f cdv A outer s H E p) body t ∧ t { nx := fun _ H' => Q .non H', rt := Q } (L2.start N vs) H) :
    FnPin P w K mg base (k + 1) f (PySem.W.fnOf name qual params body scope dV kV doc pm an cdv ct) ps sp := by
  refine ⟨len, fun A outer s H args us vs Q E p cls d hr hpin hz hf e0 hb r hsp => ?_⟩
  have hl := len _ _ _ _ _ _ _ hsp
  have KX : K.In s.heap := e0.mod.kin.keeps fun b o e => (e0.bs b o e).1
  have lim : s.heap.NoLimit := e0.mod.nolimit.keeps fun b o e => (e0.bs b o e).1
  have hkind : ∀ y ∈ ps.zip us, scope.names.lookup y.1 = some .local ∨ (scope.names.lookup y.1 = some .cell ∧ ((cellsFrom (s.heap.objs.size + 1) scope.names []).lookup y.1).isSome = true) := fun ⟨n, v⟩ hy => by
    rcases S.par n (List.of_mem_zip hy).1 with q | q
    · exact .inl q
    · exact .inr ⟨q, PySem.W.cellsFrom_some _ _ _ (.inl q)⟩
  refine codeAny_call_function hr.depth (KX _ _ lk) rfl S.co S.gen rfl (PySem.W.codeRec_of KX hcd) (hb _ _ _ _ ?_)
  refine wpAny_newFunctionEnv_cells S.kind hkind fun env he s1 x => ?_
  subst he
  refine ⟨lim.keeps x.toInCall.keep, codeAny_func ?_⟩
  obtain ⟨t, ht, hq⟩ := hbody A outer s H vs Q E p cls d (hr.deeper _) hz hf hsp
  have I : Inv (L2H.cxH CX0 P w K mg base N qual scope f cdv A outer s H E p) [] (L2.start N vs) H s1 := L2H.inv_startH S hpin e0 hl r x
  refine wpAny_mono (ht.run [] s1 (L2.start N vs) H _ I hq) (fun fl s' hs => ?_) fun e s' hs => hs
  have fin : ∀ {σ' : L2.St} {H' : Hp} {v : V} {u : Value}, Inv (L2H.cxH CX0 P w K mg base N qual scope f cdv A outer s H E p) [] σ' H' s' → RelV v u → Q v H' → CE outer P w H s Q u s' :=
    fun {σ' H' v u} J rv q => ⟨v, H', J.os, J.bare, J.base, J.hok, rv, q⟩
  cases fl with
  | ret u =>
    obtain ⟨v, σ', H', J, rv, q⟩ := hs
    exact fin J rv q
  | next =>
    obtain ⟨σ', H', J, q⟩ := hs
    exact fin (v := V.non) (u := Value.none) J rfl q
  | brk =>
    obtain ⟨_, _, _, q⟩ := hs
    exact False.elim q
  | cont =>
    obtain ⟨_, _, _, q⟩ := hs
    exact False.elim q
theorem pe_callPin {X : Cx} {k : Nat} {f : Addr} {fd : FuncData} {ps : List Str} {sp : Addr → Value → Option Addr → Sp} {x : Str} {q pos : Pos} {e : Expr} {es : List Expr} {t : TA} {p : Addr × Obj} {cls : Value} {d : Option Addr} (F : FnPin X.prog X.w X.K X.mg X.base k f fd ps sp) (hr : L2H.RoomH k X.A) (hp : p ∈ X.pn) (hz : Zc cls d p.2) (hf : ∃ vs, p.2.data = .fields vs) (hg : Gl X x)
    (hm : X.mg x = some (.ref f)) (hk : PySem.W.keepIn X.K (.ref f) = true) (hb : Binds X.K fd ps []) (ha : PA X (e :: es) t) (hdb : (x == ("__debug__" : Str)) = false := by decide)
    (he : starEach (e :: es) X.env = (false, eval e X.env) :: starEach es X.env := by rfl) (hpl : (backTo pos (starEach es X.env)).any (·.1) = false := by rfl) :
    PE X (.Call (.Name x q) (e :: es) [] pos) (tCall (sp p.1 cls d) [] E0 t) := by
  refine ⟨fun pins s σ H Q I h => ?_⟩
  refine wpAny_Call_Name_kw (ld_glob I hg hm ?_ hdb)
  refine PySem.W.callWith_K (h₀ := X.base) I.ok.mod.kin hk (thn (ha.run pos pins s σ H _ I h) fun us s1 ⟨vs, H1, I1, r, q⟩ => ⟨I1.kIn, ?_⟩) he hpl
  have q : sp p.1 cls d (vs ++ []) H1 Q E0 := q
  rw [List.append_nil] at q
  have hl : us.length = ps.length := by rw [← r.length]; exact F.len _ _ _ _ _ _ _ q
  have b := hb s1 us I1.kIn (by rw [List.append_nil]; exact hl)
  rw [List.append_nil] at b
  have P1 := I1.pin p (List.mem_append_left _ hp)
  have hpin : L2H.PinOk X.stack H1 s1 p := ⟨P1.1, P1.2.1, fun hm => (List.mem_cons.mp (I1.stkSub p.1 hm)).elim P1.2.2.1 P1.2.2.2.1, P1.2.2.2.2⟩
  refine wpAny_call (codeAny_mono (F.run X.A X.stack s1 H1 ⟨us, []⟩ us vs Q E0 p cls d hr hpin hz hf I1.env0 b r q) fun r s' hq => ?_)
  cases r with
  | error e => exact False.elim hq
  | ok fl =>
    cases fl with
    | ret u => exact I1.after hq
    | next => exact False.elim hq
    | brk => exact False.elim hq
    | cont => exact False.elim hq

/-! ### a method in a try's body -/
def tMethT (C : Addr) (m : Str) (sp : Sp) (E : L2.St → XK) (ta : TE) (t : TA) : TE := fun σ H Q => ta σ H fun x H1 => ∃ a dx fs, x = .ref a ∧ H1 a = some (.ins C dx fs) ∧ fs.lookup m = none ∧ t σ H1 fun vs H2 => sp (x :: vs) H2 Q (E σ)
theorem pe_methT {X : Cx} {CX : CXT} {k : Nat} {f C : Addr} {fd : FuncData} {ps : List Str} {sp : Sp} {E : L2.St → XK} {m : Str} {pos apos : Pos} {e o : Expr} {es : List Expr} {ta : TE} {t : TA} {pl : Sem Bool} (he : PE X o ta) (c : Cls X.K C) (hm : Meth X.K C m f)
    (F : FnOk X.prog X.w X.K X.mg X.base CX k f fd ps sp) (hr : Room k X.A) (hb : Binds X.K fd ps []) (hx : ∀ σ, PassesAt CX X σ (E σ)) (ha : PA X (e :: es) t)
    (hst : starEach (e :: es) X.env = (false, eval e X.env) :: starEach es X.env := by rfl) (hpl : (backTo pos (starEach es X.env)).any (·.1) = false := by rfl)
    (ht : eval (.Call (.Attribute o m apos) (e :: es) [] pos) X.env = (do
      let ov ← eval o X.env
      standAt apos.atName
      let (f, first) ← holding [ov] (getMethod ov m pl)
      callWith pos f first (backTo pos (starEach (e :: es) X.env)) (backToKw pos (keywordEach [] X.env))) := by rfl) :
    PE X (.Call (.Attribute o m apos) (e :: es) [] pos) (tMethT C m sp E ta t) := by
  refine ⟨fun pins s σ H Q I h => ?_⟩
  refine PySem.W.methodCall_KW (pl := pl) (thn (he.run pins s σ H _ I h) fun u s1 ⟨x, H1, I1, rx, a, dx, fs, ex, ea, l, q⟩ => ?_) ht
  subst ex
  obtain rfl : u = Value.ref a := rx
  refine getmeth_ok I1 ea c hm l ?_
  refine PySem.W.callWith_K (first := [.ref a]) (h₀ := X.base) I.ok.mod.kin hm.kp (thn (ha.run pos pins s1 σ H1 _ I1 q) fun us s2 ⟨vs, H2, I2, r, q2⟩ => ⟨I2.kIn, ?_⟩) hst hpl
  exact run_fnS (us := .ref a :: us) (vs := .ref a :: vs) F hr hb (hx σ) I2 (.cons rfl r) q2

/-! ### heaps -/
/-- all but the object at h is as it was -/
def But (h : Addr) (H H' : Hp) : Prop := ∀ b o, b ≠ h → H b = some o → H' b = some o
theorem But.of {h : Addr} {H H' : Hp} (s : Same H H') : But h H H' := fun b o _ e => s b o e
theorem But.refl (h : Addr) (H : Hp) : But h H H := fun _ _ _ e => e
theorem But.trans {h : Addr} {H H1 H2 : Hp} (a : But h H H1) (b : But h H1 H2) : But h H H2 := fun c o n e => b c o n (a c o n e)
theorem But.upd {h : Addr} {H : Hp} {o : HO} : But h H (upd H h o) := fun b u n e => by
  rw [upd_ne n]
  exact e
theorem same_new {H : Hp} {p : Addr} {o : HO} (h : H p = none) : Same H (upd H p o) := fun b x e => by
  rw [upd_ne (ne_of_none e h)]
  exact e
/-- an object that H does not know may change -/
theorem same_mut {H H' : Hp} {p : Addr} {o : HO} (e : Same H H') (h : H p = none) : Same H (upd H' p o) := fun a u ha => by
  rw [upd_ne (ne_of_none ha h)]
  exact e a u ha
theorem sq {K : PySem.W.Frag} {H : Hp} {a : Addr} {xs : List V} (h : H a = some (.lst xs)) : SqL K H a xs := Or.inl (Or.inl h)
theorem sqt {K : PySem.W.Frag} {H : Hp} {a : Addr} {xs : List V} (h : H a = some (.tup xs)) : SqT K H a xs := Or.inl (Or.inl h)
theorem ne_lt {H : Hp} {a b : Addr} {xs ys : List V} (h1 : H a = some (.lst xs)) (h2 : H b = some (.tup ys)) : a ≠ b := ne_of h1 h2 (by intro z; cases z)
theorem ne_li {H : Hp} {a b C dx : Addr} {xs : List V} {fs : List (Str × V)} (h1 : H a = some (.lst xs)) (h2 : H b = some (.ins C dx fs)) : a ≠ b := ne_of h1 h2 (by intro z; cases z)
theorem ne_ti {H : Hp} {a b C dx : Addr} {xs : List V} {fs : List (Str × V)} (h1 : H a = some (.tup xs)) (h2 : H b = some (.ins C dx fs)) : a ≠ b := ne_of h1 h2 (by intro z; cases z)
theorem small {n m : Nat} (h : n ≤ m) (hm : m ≤ 16777216 := by decide) : n ≤ sizeLine := by
  rw [sizeLine_eq]
  omega
theorem smallt {n m : Nat} (h : n < m) (hm : m ≤ 16777216 := by decide) : n < sizeLine := by
  rw [sizeLine_eq]
  omega
end K81
/-! The text by places, what the top has written. -/
namespace K81
open PySem PySem.Spec PyProof.Rows L2
/-! ### the text by places -/
def top (i : Nat) : Stmt := PySem.Challenge.pw_pacehall_k81_statements.main.body.getD i (.Pass ⟨0, 0, 0, 0⟩)
abbrev s_needPair : Stmt := top 10
abbrev s_isWhole : Stmt := top 20
abbrev s_countOf : Stmt := top 22
abbrev s_isAxis : Stmt := top 31
abbrev s_keptAxes : Stmt := top 32
abbrev s_draw : Stmt := top 35
abbrev s_lwhole : Stmt := top 36
abbrev s_llist : Stmt := top 37
abbrev s_lsizes : Stmt := top 38
abbrev s_laxes : Stmt := top 39
abbrev s_lreach : Stmt := top 40
abbrev s_lviews : Stmt := top 41
abbrev s_lcells : Stmt := top 42
abbrev s_lvalues : Stmt := top 43
abbrev s_lview : Stmt := top 44
abbrev s_lsame : Stmt := top 45
abbrev s_lmade : Stmt := top 46
abbrev s_ltold : Stmt := top 47
abbrev s_ldue : Stmt := top 48
abbrev s_lword : Stmt := top 49
abbrev s_lrefused : Stmt := top 50
abbrev s_lall : Stmt := top 51
abbrev s_law : Stmt := top 52
abbrev sTooMany_init : Stmt := inClass (top 8) 0
abbrev sStatement_writes : Stmt := inClass (top 11) 0
abbrev sStatement_reads : Stmt := inClass (top 11) 1
abbrev sStatement_run : Stmt := inClass (top 11) 2
abbrev sFill_init : Stmt := inClass (top 12) 0
abbrev sFill_writes : Stmt := inClass (top 12) 1
abbrev sFill_run : Stmt := inClass (top 12) 2
abbrev sCopy_init : Stmt := inClass (top 13) 0
abbrev sCopy_writes : Stmt := inClass (top 13) 1
abbrev sCopy_reads : Stmt := inClass (top 13) 2
abbrev sCopy_run : Stmt := inClass (top 13) 3
abbrev sSwap_init : Stmt := inClass (top 14) 0
abbrev sSwap_writes : Stmt := inClass (top 14) 1
abbrev sSwap_reads : Stmt := inClass (top 14) 2
abbrev sSwap_run : Stmt := inClass (top 14) 3
abbrev sRaise_init : Stmt := inClass (top 15) 0
abbrev sRaise_writes : Stmt := inClass (top 15) 1
abbrev sRaise_reads : Stmt := inClass (top 15) 2
abbrev sRaise_run : Stmt := inClass (top 15) 3
abbrev sStore_init : Stmt := inClass (top 18) 0
abbrev sStore_need : Stmt := inClass (top 18) 1
abbrev sStore_all_values : Stmt := inClass (top 18) 2
abbrev sStore_read : Stmt := inClass (top 18) 3
abbrev sStore_put : Stmt := inClass (top 18) 4
abbrev sStore_fill : Stmt := inClass (top 18) 5
abbrev sStore_copied : Stmt := inClass (top 18) 6
abbrev sView_init : Stmt := inClass (top 33) 0
abbrev sView_sizes : Stmt := inClass (top 33) 1
abbrev sView_count : Stmt := inClass (top 33) 3
abbrev sView_cells : Stmt := inClass (top 33) 6
abbrev sView_least : Stmt := inClass (top 33) 7
abbrev sView_greatest : Stmt := inClass (top 33) 8
/-! ### facts beside -/
open He in
def oexB (K : PySem.W.Frag) (C : Addr) : Bool := match K.lookup C with
  | some ⟨.type "type", _, .cls cd, sl⟩ => (match cd.mro, sl.toList with
    | .ref C' :: bm, [_, _, _, _, some (.builtin n), _] => C' == C && n == "ValueError.__new__" && !cd.hasDel && cd.hasDict && PySem.HandSPX.refsVE bm
    | _, _ => false)
  | _ => false
theorem oexB_ok {K : PySem.W.Frag} {C : Addr} (q : oexB K C = true) : ∃ nm q N bs bm sn sub ab col dd k0 k1 k2 k3 k5, K.lookup C = some (excClassObj nm q C N bs bm true sn sub ab col dd k0 k1 k2 k3 k5 "ValueError.__new__") ∧ PySem.HandSPX.refsVE bm = true := by
  unfold oexB at q
  split at q
  · rename_i dd cd sl ho
    split at q
    · rename_i C' bm k0 k1 k2 k3 n k5 hm hs
      simp only [Bool.and_eq_true, beq_iff_eq, Bool.not_eq_true'] at q
      obtain ⟨⟨⟨⟨rfl, rfl⟩, hdel⟩, hdc⟩, hve⟩ := q
      obtain ⟨nm, bs, mro, ns, qn, hd, sn, sub, ab, col, del⟩ := cd
      dsimp only at hm hdel hdc hve
      subst hm hdel hdc
      have hsl : sl = #[k0, k1, k2, k3, some (.builtin "ValueError.__new__"), k5] := by
        obtain ⟨l⟩ := sl
        simp only at hs
        rw [hs]
      subst hsl
      exact ⟨nm, qn, ns, bs, bm, sn, sub, ab, col, dd, k0, k1, k2, k3, k5, ho, hve⟩
    · cases q
  · cases q
open He in
def exB (K : PySem.W.Frag) (x : Str) : Bool := decide (PySem.W.findIn K (.ref (ga K x)) "__getattribute__" = some (some (.builtin "BaseException.__getattribute__"))) && (decide (PySem.W.findIn K (.ref (ga K x)) "__getattr__" = some none) &&
  (decide (PySem.W.subIn K (.ref (ga K x)) (.type "BaseException") = some true) && (PySem.W.hasDictIn K (ga K x) && (decide (PySem.W.findIn K (.ref (ga K x)) "__class__" = some (some (.builtin "object.__class__"))) &&
  decide (PySem.W.mroIn K (ga K x) (.type "object") = some true)))))
def spB (K : PySem.W.Frag) : Bool := decide (PySem.W.specialIn K (.builtin "object.__class__") "__get__" = some (some (.builtin "getset_descriptor.__get__"))) && decide (PySem.W.takesIn K (.builtin "object.__class__") = some true)
open He in
theorem exB_ok {K : PySem.W.Frag} {x : Str} (s : spB K = true) (h : exB K x = true) : ExcC K (ga K x) := by
  obtain ⟨s1, s2⟩ := ba s
  obtain ⟨h1, h⟩ := ba h
  obtain ⟨h2, h⟩ := ba h
  obtain ⟨h3, h⟩ := ba h
  obtain ⟨h4, h⟩ := ba h
  obtain ⟨h5, h6⟩ := ba h
  exact ⟨of_decide_eq_true h1, of_decide_eq_true h2, of_decide_eq_true h3, h4, of_decide_eq_true h5, of_decide_eq_true s1, of_decide_eq_true s2, of_decide_eq_true h6⟩
open He in
def isB (K : PySem.W.Frag) (x : Str) : Bool := decide (PySem.W.findIn K (.ref (ga K x)) "__class__" = some (some (.builtin "object.__class__"))) && decide (PySem.W.mroIn K (ga K x) (.type "object") = some true)
open He in
def kit2 (K : PySem.W.Frag) (x y : Str) (b : Bool) : Bool := decide (PySem.W.kitOne K (.ref (ga K x)) (.ref (ga K y)) = some b)
open He in
def kitV (K : PySem.W.Frag) (x : Str) : Bool := decide (PySem.W.kitOne K (.ref (ga K x)) (.type "ValueError") = some true)
open He in
def tmB (K : PySem.W.Frag) : Bool := oexB K (ga K "TooMany") && (decide (PySem.W.findIn K (.ref (ga K "TooMany")) "__setattr__" = some (some (.builtin "object.__setattr__"))) && (decide (PySem.W.subIn K (.ref (ga K "TooMany")) (.type "BaseException") = some true) &&
  (decide (PySem.W.typeIn K (.ref (ga K "TooMany")) = some (.type "type")) && (PySem.W.keepIn K (.ref (ga K "TooMany")) && (decide (PySem.W.findIn K (.ref (ga K "TooMany")) "__init__" = some (some (.ref (ma K (ga K "TooMany") "__init__")))) &&
  PySem.W.isFn K (.ref (ma K (ga K "TooMany") "__init__")))))))
open He in
def stB (K : PySem.W.Frag) : Bool := PySem.W.makesIn K (ga K "Statement") && (decide (PySem.W.findIn K (.ref (ga K "Statement")) "__init__" = some (some (.builtin "object.__init__"))) && PySem.W.keepIn K (.ref (ga K "Statement")))
/-- the four classes of refusals, the answers of isinstance -/
inductive Kd | pair | count | view | many
deriving DecidableEq
def Kd.nm : Kd → Str
  | .pair => "NoPair"
  | .count => "NoCount"
  | .view => "NoView"
  | .many => "TooMany"
def kds : List Kd := [.pair, .count, .view, .many]
def kitsB (K : PySem.W.Frag) : Bool := kds.all fun a => exB K a.nm && (kitV K a.nm && kds.all fun b => kit2 K a.nm b.nm (decide (a = b)))
open He in
structure Ext (K : PySem.W.Frag) : Prop where
  tm : OexC K (ga K "TooMany")
  tmI : PySem.W.findIn K (.ref (ga K "TooMany")) "__init__" = some (some (.ref (ma K (ga K "TooMany") "__init__")))
  tmT : PySem.W.typeIn K (.ref (ma K (ga K "TooMany") "__init__")) = some (.type "function")
  ec : ∀ a : Kd, ExcC K (ga K a.nm)
  kv : ∀ a : Kd, PySem.W.kitOne K (.ref (ga K a.nm)) (.type "ValueError") = some true
  kk : ∀ a b : Kd, PySem.W.kitOne K (.ref (ga K a.nm)) (.ref (ga K b.nm)) = some (decide (a = b))
  hn : PySem.W.specialIn K (.builtin "object.__class__") "__get__" = some (some (.builtin "getset_descriptor.__get__"))
  ht : PySem.W.takesIn K (.builtin "object.__class__") = some true
  vC : PySem.W.findIn K (.ref (ga K "View")) "__class__" = some (some (.builtin "object.__class__")) ∧ PySem.W.mroIn K (ga K "View") (.type "object") = some true
  rC : PySem.W.findIn K (.ref (ga K "Raise")) "__class__" = some (some (.builtin "object.__class__")) ∧ PySem.W.mroIn K (ga K "Raise") (.type "object") = some true
  fC : PySem.W.findIn K (.ref (ga K "Fill")) "__class__" = some (some (.builtin "object.__class__")) ∧ PySem.W.mroIn K (ga K "Fill") (.type "object") = some true
  vv : PySem.W.kitOne K (.ref (ga K "View")) (.ref (ga K "View")) = some true
  rs : PySem.W.kitOne K (.ref (ga K "Raise")) (.ref (ga K "Statement")) = some true
  fs : PySem.W.kitOne K (.ref (ga K "Fill")) (.ref (ga K "Statement")) = some true
  sM : PySem.W.makesIn K (ga K "Statement") = true
  sI : PySem.W.findIn K (.ref (ga K "Statement")) "__init__" = some (some (.builtin "object.__init__"))
  sK : PySem.W.keepIn K (.ref (ga K "Statement")) = true
def extB (K : PySem.W.Frag) : Bool := tmB K && (spB K && (kitsB K && (isB K "View" && (isB K "Raise" && (isB K "Fill" && (kit2 K "View" "View" true && (kit2 K "Raise" "Statement" true && (kit2 K "Fill" "Statement" true && stB K))))))))
open He in
theorem ext_ok {K : PySem.W.Frag} (h : extB K = true) : Ext K := by
  obtain ⟨h1, h⟩ := ba h
  obtain ⟨h2, h⟩ := ba h
  obtain ⟨h3, h⟩ := ba h
  obtain ⟨h4, h⟩ := ba h
  obtain ⟨h5, h⟩ := ba h
  obtain ⟨h6, h⟩ := ba h
  obtain ⟨h7, h⟩ := ba h
  obtain ⟨h8, h⟩ := ba h
  obtain ⟨h9, h10⟩ := ba h
  obtain ⟨a1, a⟩ := ba h1
  obtain ⟨a2, a⟩ := ba a
  obtain ⟨a3, a⟩ := ba a
  obtain ⟨a4, a⟩ := ba a
  obtain ⟨a5, a⟩ := ba a
  obtain ⟨a6, a7⟩ := ba a
  obtain ⟨s1, s⟩ := ba h10
  obtain ⟨s2, s3⟩ := ba s
  obtain ⟨p1, p2⟩ := ba h2
  obtain ⟨v1, v2⟩ := ba h4
  obtain ⟨r1, r2⟩ := ba h5
  obtain ⟨f1, f2⟩ := ba h6
  have mem : ∀ a : Kd, a ∈ kds := fun a => by cases a <;> decide
  have at_ : ∀ a : Kd, (exB K a.nm && (kitV K a.nm && kds.all fun b => kit2 K a.nm b.nm (decide (a = b)))) = true := fun a => List.all_eq_true.mp h3 a (mem a)
  exact { tm := ⟨oexB_ok a1, of_decide_eq_true a2, of_decide_eq_true a3, of_decide_eq_true a4, a5⟩, tmI := of_decide_eq_true a6, tmT := beq_iff_eq.mp a7
          ec := fun a => exB_ok h2 (ba (at_ a)).1
          kv := fun a => of_decide_eq_true (ba (ba (at_ a)).2).1
          kk := fun a b => of_decide_eq_true (List.all_eq_true.mp (ba (ba (at_ a)).2).2 b (mem b))
          hn := of_decide_eq_true p1, ht := of_decide_eq_true p2
          vC := ⟨of_decide_eq_true v1, of_decide_eq_true v2⟩, rC := ⟨of_decide_eq_true r1, of_decide_eq_true r2⟩, fC := ⟨of_decide_eq_true f1, of_decide_eq_true f2⟩
          vv := of_decide_eq_true h7, rs := of_decide_eq_true h8, fs := of_decide_eq_true h9
          sM := s1, sI := of_decide_eq_true s2, sK := s3 }
/-! ### what the top has written: the facts, by names -/
abbrev FnP (K : PySem.W.Frag) (x qual : Str) (st : Stmt) (f : Addr) (fd : FuncData) : Prop := FunD K x qual (defArgs st) (defBody st) (defScope st) [] [] f fd
open He in
def fa : List Fa := [.glo "need_pair",
  .glo "is_whole",
  .glo "count_of",
  .glo "is_axis",
  .glo "kept_axes",
  .glo "_law_draw",
  .glo "_law_whole",
  .glo "_law_list",
  .glo "_law_sizes",
  .glo "_law_axes",
  .glo "_law_reach",
  .glo "_law_views",
  .glo "_law_cells",
  .glo "_law_values",
  .glo "_law_view",
  .glo "_law_same",
  .glo "_law_made",
  .glo "_law_told",
  .glo "_law_due",
  .glo "_law_word",
  .glo "_law_refused",
  .glo "_law_all_refused",
  .glo "law",
  .glo "NoView",
  .glo "NoCount",
  .glo "NoPair",
  .glo "TooMany",
  .glo "PaceError",
  .glo "Statement",
  .glo "Fill",
  .glo "Copy",
  .glo "Swap",
  .glo "Raise",
  .glo "Store",
  .glo "View",
  .free "len",
  .free "list",
  .free "isinstance",
  .free "int",
  .free "bool",
  .free "tuple",
  .free "zip",
  .free "range",
  .free "sum",
  .free "min",
  .free "max",
  .free "ValueError",
  .int "MOST_stores" 4096,
  .int "MOST_views" 4096,
  .int "MOST_ROOM" 1000000000000000000,
  .int "MOST_AXES" 8,
  .int "MOST_SIZE" 1000000000,
  .cls "Statement",
  .cls "Fill",
  .cls "Copy",
  .cls "Swap",
  .cls "Raise",
  .cls "Store",
  .cls "View",
  .noat "View" "room",
  .noat "View" "first",
  .noat "View" "axes",
  .noat "Store" "held",
  .noat "Fill" "to",
  .noat "Fill" "value",
  .noat "Copy" "to",
  .noat "Copy" "source",
  .noat "Swap" "one",
  .noat "Swap" "other",
  .noat "Raise" "to",
  .noat "Raise" "source",
  .noat "TooMany" "number",
  .meth "View" "sizes",
  .meth "View" "count",
  .meth "View" "cells",
  .meth "View" "least",
  .meth "View" "greatest",
  .meth "Store" "need",
  .meth "Store" "all_values",
  .meth "Store" "read",
  .meth "Store" "put",
  .meth "Store" "fill",
  .meth "Store" "copied",
  .meth "Statement" "writes",
  .meth "Statement" "reads",
  .meth "Statement" "run",
  .meth "Fill" "writes",
  .meth "Fill" "reads",
  .meth "Fill" "run",
  .meth "Copy" "writes",
  .meth "Copy" "reads",
  .meth "Copy" "run",
  .meth "Swap" "writes",
  .meth "Swap" "reads",
  .meth "Swap" "run",
  .meth "Raise" "writes",
  .meth "Raise" "reads",
  .meth "Raise" "run",
  .mkr "Fill",
  .mkr "Copy",
  .mkr "Swap",
  .mkr "Raise",
  .mkr "Store",
  .mkr "View",
  .exc "NoView",
  .exc "NoCount",
  .exc "NoPair",
  .exm "NoView" "PaceError" true,
  .exm "NoCount" "PaceError" true,
  .exm "NoPair" "PaceError" true,
  .exm "TooMany" "PaceError" true]
open He in
def fn : List DefD := [⟨("need_pair", none), "need_pair", "need_pair", defArgs s_needPair, defBody s_needPair, defScope s_needPair, [], []⟩,
  ⟨("is_whole", none), "is_whole", "is_whole", defArgs s_isWhole, defBody s_isWhole, defScope s_isWhole, [], []⟩,
  ⟨("count_of", none), "count_of", "count_of", defArgs s_countOf, defBody s_countOf, defScope s_countOf, [], []⟩,
  ⟨("is_axis", none), "is_axis", "is_axis", defArgs s_isAxis, defBody s_isAxis, defScope s_isAxis, [], []⟩,
  ⟨("kept_axes", none), "kept_axes", "kept_axes", defArgs s_keptAxes, defBody s_keptAxes, defScope s_keptAxes, [], []⟩,
  ⟨("_law_draw", none), "_law_draw", "_law_draw", defArgs s_draw, defBody s_draw, defScope s_draw, [], []⟩,
  ⟨("_law_whole", none), "_law_whole", "_law_whole", defArgs s_lwhole, defBody s_lwhole, defScope s_lwhole, [], []⟩,
  ⟨("_law_list", none), "_law_list", "_law_list", defArgs s_llist, defBody s_llist, defScope s_llist, [], []⟩,
  ⟨("_law_sizes", none), "_law_sizes", "_law_sizes", defArgs s_lsizes, defBody s_lsizes, defScope s_lsizes, [], []⟩,
  ⟨("_law_axes", none), "_law_axes", "_law_axes", defArgs s_laxes, defBody s_laxes, defScope s_laxes, [], []⟩,
  ⟨("_law_reach", none), "_law_reach", "_law_reach", defArgs s_lreach, defBody s_lreach, defScope s_lreach, [], []⟩,
  ⟨("_law_views", none), "_law_views", "_law_views", defArgs s_lviews, defBody s_lviews, defScope s_lviews, [], []⟩,
  ⟨("_law_cells", none), "_law_cells", "_law_cells", defArgs s_lcells, defBody s_lcells, defScope s_lcells, [], []⟩,
  ⟨("_law_values", none), "_law_values", "_law_values", defArgs s_lvalues, defBody s_lvalues, defScope s_lvalues, [], []⟩,
  ⟨("_law_view", none), "_law_view", "_law_view", defArgs s_lview, defBody s_lview, defScope s_lview, [], []⟩,
  ⟨("_law_same", none), "_law_same", "_law_same", defArgs s_lsame, defBody s_lsame, defScope s_lsame, [], []⟩,
  ⟨("_law_made", none), "_law_made", "_law_made", defArgs s_lmade, defBody s_lmade, defScope s_lmade, [], []⟩,
  ⟨("_law_told", none), "_law_told", "_law_told", defArgs s_ltold, defBody s_ltold, defScope s_ltold, [], []⟩,
  ⟨("_law_due", none), "_law_due", "_law_due", defArgs s_ldue, defBody s_ldue, defScope s_ldue, [], []⟩,
  ⟨("_law_word", none), "_law_word", "_law_word", defArgs s_lword, defBody s_lword, defScope s_lword, [], []⟩,
  ⟨("_law_refused", none), "_law_refused", "_law_refused", defArgs s_lrefused, defBody s_lrefused, defScope s_lrefused, [], []⟩,
  ⟨("_law_all_refused", none), "_law_all_refused", "_law_all_refused", defArgs s_lall, defBody s_lall, defScope s_lall, [], []⟩,
  ⟨("law", none), "law", "law", defArgs s_law, defBody s_law, defScope s_law, [], []⟩,
  ⟨("TooMany", some "__init__"), "__init__", "TooMany.__init__", defArgs sTooMany_init, defBody sTooMany_init, defScope sTooMany_init, [], []⟩,
  ⟨("Statement", some "writes"), "writes", "Statement.writes", defArgs sStatement_writes, defBody sStatement_writes, defScope sStatement_writes, [], []⟩,
  ⟨("Statement", some "reads"), "reads", "Statement.reads", defArgs sStatement_reads, defBody sStatement_reads, defScope sStatement_reads, [], []⟩,
  ⟨("Statement", some "run"), "run", "Statement.run", defArgs sStatement_run, defBody sStatement_run, defScope sStatement_run, [], []⟩,
  ⟨("Fill", some "__init__"), "__init__", "Fill.__init__", defArgs sFill_init, defBody sFill_init, defScope sFill_init, [], []⟩,
  ⟨("Fill", some "writes"), "writes", "Fill.writes", defArgs sFill_writes, defBody sFill_writes, defScope sFill_writes, [], []⟩,
  ⟨("Fill", some "run"), "run", "Fill.run", defArgs sFill_run, defBody sFill_run, defScope sFill_run, [], []⟩,
  ⟨("Copy", some "__init__"), "__init__", "Copy.__init__", defArgs sCopy_init, defBody sCopy_init, defScope sCopy_init, [], []⟩,
  ⟨("Copy", some "writes"), "writes", "Copy.writes", defArgs sCopy_writes, defBody sCopy_writes, defScope sCopy_writes, [], []⟩,
  ⟨("Copy", some "reads"), "reads", "Copy.reads", defArgs sCopy_reads, defBody sCopy_reads, defScope sCopy_reads, [], []⟩,
  ⟨("Copy", some "run"), "run", "Copy.run", defArgs sCopy_run, defBody sCopy_run, defScope sCopy_run, [], []⟩,
  ⟨("Swap", some "__init__"), "__init__", "Swap.__init__", defArgs sSwap_init, defBody sSwap_init, defScope sSwap_init, [], []⟩,
  ⟨("Swap", some "writes"), "writes", "Swap.writes", defArgs sSwap_writes, defBody sSwap_writes, defScope sSwap_writes, [], []⟩,
  ⟨("Swap", some "reads"), "reads", "Swap.reads", defArgs sSwap_reads, defBody sSwap_reads, defScope sSwap_reads, [], []⟩,
  ⟨("Swap", some "run"), "run", "Swap.run", defArgs sSwap_run, defBody sSwap_run, defScope sSwap_run, [], []⟩,
  ⟨("Raise", some "__init__"), "__init__", "Raise.__init__", defArgs sRaise_init, defBody sRaise_init, defScope sRaise_init, [], []⟩,
  ⟨("Raise", some "writes"), "writes", "Raise.writes", defArgs sRaise_writes, defBody sRaise_writes, defScope sRaise_writes, [], []⟩,
  ⟨("Raise", some "reads"), "reads", "Raise.reads", defArgs sRaise_reads, defBody sRaise_reads, defScope sRaise_reads, [], []⟩,
  ⟨("Raise", some "run"), "run", "Raise.run", defArgs sRaise_run, defBody sRaise_run, defScope sRaise_run, [], []⟩,
  ⟨("Store", some "__init__"), "__init__", "Store.__init__", defArgs sStore_init, defBody sStore_init, defScope sStore_init, [], []⟩,
  ⟨("Store", some "need"), "need", "Store.need", defArgs sStore_need, defBody sStore_need, defScope sStore_need, [], []⟩,
  ⟨("Store", some "all_values"), "all_values", "Store.all_values", defArgs sStore_all_values, defBody sStore_all_values, defScope sStore_all_values, [], []⟩,
  ⟨("Store", some "read"), "read", "Store.read", defArgs sStore_read, defBody sStore_read, defScope sStore_read, [], []⟩,
  ⟨("Store", some "put"), "put", "Store.put", defArgs sStore_put, defBody sStore_put, defScope sStore_put, [], []⟩,
  ⟨("Store", some "fill"), "fill", "Store.fill", defArgs sStore_fill, defBody sStore_fill, defScope sStore_fill, [], []⟩,
  ⟨("Store", some "copied"), "copied", "Store.copied", defArgs sStore_copied, defBody sStore_copied, defScope sStore_copied, [], []⟩,
  ⟨("View", some "__init__"), "__init__", "View.__init__", defArgs sView_init, defBody sView_init, defScope sView_init, [], []⟩,
  ⟨("View", some "sizes"), "sizes", "View.sizes", defArgs sView_sizes, defBody sView_sizes, defScope sView_sizes, [], []⟩,
  ⟨("View", some "count"), "count", "View.count", defArgs sView_count, defBody sView_count, defScope sView_count, [], []⟩,
  ⟨("View", some "cells"), "cells", "View.cells", defArgs sView_cells, defBody sView_cells, defScope sView_cells, [], []⟩,
  ⟨("View", some "least"), "least", "View.least", defArgs sView_least, defBody sView_least, defScope sView_least, [], []⟩,
  ⟨("View", some "greatest"), "greatest", "View.greatest", defArgs sView_greatest, defBody sView_greatest, defScope sView_greatest, [], []⟩,
  ⟨("Fill", some "reads"), "reads", "Statement.reads", defArgs sStatement_reads, defBody sStatement_reads, defScope sStatement_reads, [], []⟩]
open He in
structure Txt (K : PySem.W.Frag) (mg : Str → Option Value) : Prop where
  g_need_pair : mg "need_pair" = some (.ref (ga K "need_pair"))
  g_is_whole : mg "is_whole" = some (.ref (ga K "is_whole"))
  g_count_of : mg "count_of" = some (.ref (ga K "count_of"))
  g_is_axis : mg "is_axis" = some (.ref (ga K "is_axis"))
  g_kept_axes : mg "kept_axes" = some (.ref (ga K "kept_axes"))
  g__law_draw : mg "_law_draw" = some (.ref (ga K "_law_draw"))
  g__law_whole : mg "_law_whole" = some (.ref (ga K "_law_whole"))
  g__law_list : mg "_law_list" = some (.ref (ga K "_law_list"))
  g__law_sizes : mg "_law_sizes" = some (.ref (ga K "_law_sizes"))
  g__law_axes : mg "_law_axes" = some (.ref (ga K "_law_axes"))
  g__law_reach : mg "_law_reach" = some (.ref (ga K "_law_reach"))
  g__law_views : mg "_law_views" = some (.ref (ga K "_law_views"))
  g__law_cells : mg "_law_cells" = some (.ref (ga K "_law_cells"))
  g__law_values : mg "_law_values" = some (.ref (ga K "_law_values"))
  g__law_view : mg "_law_view" = some (.ref (ga K "_law_view"))
  g__law_same : mg "_law_same" = some (.ref (ga K "_law_same"))
  g__law_made : mg "_law_made" = some (.ref (ga K "_law_made"))
  g__law_told : mg "_law_told" = some (.ref (ga K "_law_told"))
  g__law_due : mg "_law_due" = some (.ref (ga K "_law_due"))
  g__law_word : mg "_law_word" = some (.ref (ga K "_law_word"))
  g__law_refused : mg "_law_refused" = some (.ref (ga K "_law_refused"))
  g__law_all_refused : mg "_law_all_refused" = some (.ref (ga K "_law_all_refused"))
  g_law : mg "law" = some (.ref (ga K "law"))
  g_NoView : mg "NoView" = some (.ref (ga K "NoView"))
  g_NoCount : mg "NoCount" = some (.ref (ga K "NoCount"))
  g_NoPair : mg "NoPair" = some (.ref (ga K "NoPair"))
  g_TooMany : mg "TooMany" = some (.ref (ga K "TooMany"))
  g_PaceError : mg "PaceError" = some (.ref (ga K "PaceError"))
  g_Statement : mg "Statement" = some (.ref (ga K "Statement"))
  g_Fill : mg "Fill" = some (.ref (ga K "Fill"))
  g_Copy : mg "Copy" = some (.ref (ga K "Copy"))
  g_Swap : mg "Swap" = some (.ref (ga K "Swap"))
  g_Raise : mg "Raise" = some (.ref (ga K "Raise"))
  g_Store : mg "Store" = some (.ref (ga K "Store"))
  g_View : mg "View" = some (.ref (ga K "View"))
  f_len : mg "len" = none
  f_list : mg "list" = none
  f_isinstance : mg "isinstance" = none
  f_int : mg "int" = none
  f_bool : mg "bool" = none
  f_tuple : mg "tuple" = none
  f_zip : mg "zip" = none
  f_range : mg "range" = none
  f_sum : mg "sum" = none
  f_min : mg "min" = none
  f_max : mg "max" = none
  f_ValueError : mg "ValueError" = none
  i_MOST_stores : ∃ t, mg "MOST_stores" = some (.int 4096 t)
  i_MOST_views : ∃ t, mg "MOST_views" = some (.int 4096 t)
  i_MOST_ROOM : ∃ t, mg "MOST_ROOM" = some (.int 1000000000000000000 t)
  i_MOST_AXES : ∃ t, mg "MOST_AXES" = some (.int 8 t)
  i_MOST_SIZE : ∃ t, mg "MOST_SIZE" = some (.int 1000000000 t)
  c_Statement : Cls K (ga K "Statement")
  c_Fill : Cls K (ga K "Fill")
  c_Copy : Cls K (ga K "Copy")
  c_Swap : Cls K (ga K "Swap")
  c_Raise : Cls K (ga K "Raise")
  c_Store : Cls K (ga K "Store")
  c_View : Cls K (ga K "View")
  n_View_room : NoAttr K (ga K "View") "room"
  n_View_first : NoAttr K (ga K "View") "first"
  n_View_axes : NoAttr K (ga K "View") "axes"
  n_Store_held : NoAttr K (ga K "Store") "held"
  n_Fill_to : NoAttr K (ga K "Fill") "to"
  n_Fill_value : NoAttr K (ga K "Fill") "value"
  n_Copy_to : NoAttr K (ga K "Copy") "to"
  n_Copy_source : NoAttr K (ga K "Copy") "source"
  n_Swap_one : NoAttr K (ga K "Swap") "one"
  n_Swap_other : NoAttr K (ga K "Swap") "other"
  n_Raise_to : NoAttr K (ga K "Raise") "to"
  n_Raise_source : NoAttr K (ga K "Raise") "source"
  n_TooMany_number : NoAttr K (ga K "TooMany") "number"
  m_View_sizes : Meth K (ga K "View") "sizes" (ma K (ga K "View") "sizes")
  m_View_count : Meth K (ga K "View") "count" (ma K (ga K "View") "count")
  m_View_cells : Meth K (ga K "View") "cells" (ma K (ga K "View") "cells")
  m_View_least : Meth K (ga K "View") "least" (ma K (ga K "View") "least")
  m_View_greatest : Meth K (ga K "View") "greatest" (ma K (ga K "View") "greatest")
  m_Store_need : Meth K (ga K "Store") "need" (ma K (ga K "Store") "need")
  m_Store_all_values : Meth K (ga K "Store") "all_values" (ma K (ga K "Store") "all_values")
  m_Store_read : Meth K (ga K "Store") "read" (ma K (ga K "Store") "read")
  m_Store_put : Meth K (ga K "Store") "put" (ma K (ga K "Store") "put")
  m_Store_fill : Meth K (ga K "Store") "fill" (ma K (ga K "Store") "fill")
  m_Store_copied : Meth K (ga K "Store") "copied" (ma K (ga K "Store") "copied")
  m_Statement_writes : Meth K (ga K "Statement") "writes" (ma K (ga K "Statement") "writes")
  m_Statement_reads : Meth K (ga K "Statement") "reads" (ma K (ga K "Statement") "reads")
  m_Statement_run : Meth K (ga K "Statement") "run" (ma K (ga K "Statement") "run")
  m_Fill_writes : Meth K (ga K "Fill") "writes" (ma K (ga K "Fill") "writes")
  m_Fill_reads : Meth K (ga K "Fill") "reads" (ma K (ga K "Fill") "reads")
  m_Fill_run : Meth K (ga K "Fill") "run" (ma K (ga K "Fill") "run")
  m_Copy_writes : Meth K (ga K "Copy") "writes" (ma K (ga K "Copy") "writes")
  m_Copy_reads : Meth K (ga K "Copy") "reads" (ma K (ga K "Copy") "reads")
  m_Copy_run : Meth K (ga K "Copy") "run" (ma K (ga K "Copy") "run")
  m_Swap_writes : Meth K (ga K "Swap") "writes" (ma K (ga K "Swap") "writes")
  m_Swap_reads : Meth K (ga K "Swap") "reads" (ma K (ga K "Swap") "reads")
  m_Swap_run : Meth K (ga K "Swap") "run" (ma K (ga K "Swap") "run")
  m_Raise_writes : Meth K (ga K "Raise") "writes" (ma K (ga K "Raise") "writes")
  m_Raise_reads : Meth K (ga K "Raise") "reads" (ma K (ga K "Raise") "reads")
  m_Raise_run : Meth K (ga K "Raise") "run" (ma K (ga K "Raise") "run")
  k_Fill : Mk K (ga K "Fill") (ma K (ga K "Fill") "__init__")
  k_Copy : Mk K (ga K "Copy") (ma K (ga K "Copy") "__init__")
  k_Swap : Mk K (ga K "Swap") (ma K (ga K "Swap") "__init__")
  k_Raise : Mk K (ga K "Raise") (ma K (ga K "Raise") "__init__")
  k_Store : Mk K (ga K "Store") (ma K (ga K "Store") "__init__")
  k_View : Mk K (ga K "View") (ma K (ga K "View") "__init__")
  e_NoView : PySem.W.excIn K (ga K "NoView") veBase "ValueError.__new__" = true ∧ PySem.W.keepIn K (.ref (ga K "NoView")) = true ∧ PySem.W.subIn K (.ref (ga K "NoView")) (.type "BaseException") = some true ∧ PySem.W.typeIn K (.ref (ga K "NoView")) = some (.type "type")
  e_NoCount : PySem.W.excIn K (ga K "NoCount") veBase "ValueError.__new__" = true ∧ PySem.W.keepIn K (.ref (ga K "NoCount")) = true ∧ PySem.W.subIn K (.ref (ga K "NoCount")) (.type "BaseException") = some true ∧ PySem.W.typeIn K (.ref (ga K "NoCount")) = some (.type "type")
  e_NoPair : PySem.W.excIn K (ga K "NoPair") veBase "ValueError.__new__" = true ∧ PySem.W.keepIn K (.ref (ga K "NoPair")) = true ∧ PySem.W.subIn K (.ref (ga K "NoPair")) (.type "BaseException") = some true ∧ PySem.W.typeIn K (.ref (ga K "NoPair")) = some (.type "type")
  x_NoView : PySem.W.exmOne K (.ref (ga K "NoView")) (.ref (ga K "PaceError")) = some true
  x_NoCount : PySem.W.exmOne K (.ref (ga K "NoCount")) (.ref (ga K "PaceError")) = some true
  x_NoPair : PySem.W.exmOne K (.ref (ga K "NoPair")) (.ref (ga K "PaceError")) = some true
  x_TooMany : PySem.W.exmOne K (.ref (ga K "TooMany")) (.ref (ga K "PaceError")) = some true
  d_need_pair : ∃ fd, FnP K "need_pair" "need_pair" s_needPair (fAd K ("need_pair", none)) fd
  d_is_whole : ∃ fd, FnP K "is_whole" "is_whole" s_isWhole (fAd K ("is_whole", none)) fd
  d_count_of : ∃ fd, FnP K "count_of" "count_of" s_countOf (fAd K ("count_of", none)) fd
  d_is_axis : ∃ fd, FnP K "is_axis" "is_axis" s_isAxis (fAd K ("is_axis", none)) fd
  d_kept_axes : ∃ fd, FnP K "kept_axes" "kept_axes" s_keptAxes (fAd K ("kept_axes", none)) fd
  d__law_draw : ∃ fd, FnP K "_law_draw" "_law_draw" s_draw (fAd K ("_law_draw", none)) fd
  d__law_whole : ∃ fd, FnP K "_law_whole" "_law_whole" s_lwhole (fAd K ("_law_whole", none)) fd
  d__law_list : ∃ fd, FnP K "_law_list" "_law_list" s_llist (fAd K ("_law_list", none)) fd
  d__law_sizes : ∃ fd, FnP K "_law_sizes" "_law_sizes" s_lsizes (fAd K ("_law_sizes", none)) fd
  d__law_axes : ∃ fd, FnP K "_law_axes" "_law_axes" s_laxes (fAd K ("_law_axes", none)) fd
  d__law_reach : ∃ fd, FnP K "_law_reach" "_law_reach" s_lreach (fAd K ("_law_reach", none)) fd
  d__law_views : ∃ fd, FnP K "_law_views" "_law_views" s_lviews (fAd K ("_law_views", none)) fd
  d__law_cells : ∃ fd, FnP K "_law_cells" "_law_cells" s_lcells (fAd K ("_law_cells", none)) fd
  d__law_values : ∃ fd, FnP K "_law_values" "_law_values" s_lvalues (fAd K ("_law_values", none)) fd
  d__law_view : ∃ fd, FnP K "_law_view" "_law_view" s_lview (fAd K ("_law_view", none)) fd
  d__law_same : ∃ fd, FnP K "_law_same" "_law_same" s_lsame (fAd K ("_law_same", none)) fd
  d__law_made : ∃ fd, FnP K "_law_made" "_law_made" s_lmade (fAd K ("_law_made", none)) fd
  d__law_told : ∃ fd, FnP K "_law_told" "_law_told" s_ltold (fAd K ("_law_told", none)) fd
  d__law_due : ∃ fd, FnP K "_law_due" "_law_due" s_ldue (fAd K ("_law_due", none)) fd
  d__law_word : ∃ fd, FnP K "_law_word" "_law_word" s_lword (fAd K ("_law_word", none)) fd
  d__law_refused : ∃ fd, FnP K "_law_refused" "_law_refused" s_lrefused (fAd K ("_law_refused", none)) fd
  d__law_all_refused : ∃ fd, FnP K "_law_all_refused" "_law_all_refused" s_lall (fAd K ("_law_all_refused", none)) fd
  d_law : ∃ fd, FnP K "law" "law" s_law (fAd K ("law", none)) fd
  d_TooMany___init__ : ∃ fd, FnP K "__init__" "TooMany.__init__" sTooMany_init (fAd K ("TooMany", some "__init__")) fd
  d_Statement_writes : ∃ fd, FnP K "writes" "Statement.writes" sStatement_writes (fAd K ("Statement", some "writes")) fd
  d_Statement_reads : ∃ fd, FnP K "reads" "Statement.reads" sStatement_reads (fAd K ("Statement", some "reads")) fd
  d_Statement_run : ∃ fd, FnP K "run" "Statement.run" sStatement_run (fAd K ("Statement", some "run")) fd
  d_Fill___init__ : ∃ fd, FnP K "__init__" "Fill.__init__" sFill_init (fAd K ("Fill", some "__init__")) fd
  d_Fill_writes : ∃ fd, FnP K "writes" "Fill.writes" sFill_writes (fAd K ("Fill", some "writes")) fd
  d_Fill_run : ∃ fd, FnP K "run" "Fill.run" sFill_run (fAd K ("Fill", some "run")) fd
  d_Copy___init__ : ∃ fd, FnP K "__init__" "Copy.__init__" sCopy_init (fAd K ("Copy", some "__init__")) fd
  d_Copy_writes : ∃ fd, FnP K "writes" "Copy.writes" sCopy_writes (fAd K ("Copy", some "writes")) fd
  d_Copy_reads : ∃ fd, FnP K "reads" "Copy.reads" sCopy_reads (fAd K ("Copy", some "reads")) fd
  d_Copy_run : ∃ fd, FnP K "run" "Copy.run" sCopy_run (fAd K ("Copy", some "run")) fd
  d_Swap___init__ : ∃ fd, FnP K "__init__" "Swap.__init__" sSwap_init (fAd K ("Swap", some "__init__")) fd
  d_Swap_writes : ∃ fd, FnP K "writes" "Swap.writes" sSwap_writes (fAd K ("Swap", some "writes")) fd
  d_Swap_reads : ∃ fd, FnP K "reads" "Swap.reads" sSwap_reads (fAd K ("Swap", some "reads")) fd
  d_Swap_run : ∃ fd, FnP K "run" "Swap.run" sSwap_run (fAd K ("Swap", some "run")) fd
  d_Raise___init__ : ∃ fd, FnP K "__init__" "Raise.__init__" sRaise_init (fAd K ("Raise", some "__init__")) fd
  d_Raise_writes : ∃ fd, FnP K "writes" "Raise.writes" sRaise_writes (fAd K ("Raise", some "writes")) fd
  d_Raise_reads : ∃ fd, FnP K "reads" "Raise.reads" sRaise_reads (fAd K ("Raise", some "reads")) fd
  d_Raise_run : ∃ fd, FnP K "run" "Raise.run" sRaise_run (fAd K ("Raise", some "run")) fd
  d_Store___init__ : ∃ fd, FnP K "__init__" "Store.__init__" sStore_init (fAd K ("Store", some "__init__")) fd
  d_Store_need : ∃ fd, FnP K "need" "Store.need" sStore_need (fAd K ("Store", some "need")) fd
  d_Store_all_values : ∃ fd, FnP K "all_values" "Store.all_values" sStore_all_values (fAd K ("Store", some "all_values")) fd
  d_Store_read : ∃ fd, FnP K "read" "Store.read" sStore_read (fAd K ("Store", some "read")) fd
  d_Store_put : ∃ fd, FnP K "put" "Store.put" sStore_put (fAd K ("Store", some "put")) fd
  d_Store_fill : ∃ fd, FnP K "fill" "Store.fill" sStore_fill (fAd K ("Store", some "fill")) fd
  d_Store_copied : ∃ fd, FnP K "copied" "Store.copied" sStore_copied (fAd K ("Store", some "copied")) fd
  d_View___init__ : ∃ fd, FnP K "__init__" "View.__init__" sView_init (fAd K ("View", some "__init__")) fd
  d_View_sizes : ∃ fd, FnP K "sizes" "View.sizes" sView_sizes (fAd K ("View", some "sizes")) fd
  d_View_count : ∃ fd, FnP K "count" "View.count" sView_count (fAd K ("View", some "count")) fd
  d_View_cells : ∃ fd, FnP K "cells" "View.cells" sView_cells (fAd K ("View", some "cells")) fd
  d_View_least : ∃ fd, FnP K "least" "View.least" sView_least (fAd K ("View", some "least")) fd
  d_View_greatest : ∃ fd, FnP K "greatest" "View.greatest" sView_greatest (fAd K ("View", some "greatest")) fd
  d_Fill_reads : ∃ fd, FnP K "reads" "Statement.reads" sStatement_reads (fAd K ("Fill", some "reads")) fd
  ext : Ext K
open He in
theorem txt_of {K : PySem.W.Frag} {h : Heap} {mg : Str → Option Value} (X : K.In h) (G : h.Ns mainGlobals mg) (c : SaysD fa fn K) (e : extB K = true) : Txt K mg where
  g_need_pair := glo_ok X G (c.fact 0 (by rfl))
  g_is_whole := glo_ok X G (c.fact 1 (by rfl))
  g_count_of := glo_ok X G (c.fact 2 (by rfl))
  g_is_axis := glo_ok X G (c.fact 3 (by rfl))
  g_kept_axes := glo_ok X G (c.fact 4 (by rfl))
  g__law_draw := glo_ok X G (c.fact 5 (by rfl))
  g__law_whole := glo_ok X G (c.fact 6 (by rfl))
  g__law_list := glo_ok X G (c.fact 7 (by rfl))
  g__law_sizes := glo_ok X G (c.fact 8 (by rfl))
  g__law_axes := glo_ok X G (c.fact 9 (by rfl))
  g__law_reach := glo_ok X G (c.fact 10 (by rfl))
  g__law_views := glo_ok X G (c.fact 11 (by rfl))
  g__law_cells := glo_ok X G (c.fact 12 (by rfl))
  g__law_values := glo_ok X G (c.fact 13 (by rfl))
  g__law_view := glo_ok X G (c.fact 14 (by rfl))
  g__law_same := glo_ok X G (c.fact 15 (by rfl))
  g__law_made := glo_ok X G (c.fact 16 (by rfl))
  g__law_told := glo_ok X G (c.fact 17 (by rfl))
  g__law_due := glo_ok X G (c.fact 18 (by rfl))
  g__law_word := glo_ok X G (c.fact 19 (by rfl))
  g__law_refused := glo_ok X G (c.fact 20 (by rfl))
  g__law_all_refused := glo_ok X G (c.fact 21 (by rfl))
  g_law := glo_ok X G (c.fact 22 (by rfl))
  g_NoView := glo_ok X G (c.fact 23 (by rfl))
  g_NoCount := glo_ok X G (c.fact 24 (by rfl))
  g_NoPair := glo_ok X G (c.fact 25 (by rfl))
  g_TooMany := glo_ok X G (c.fact 26 (by rfl))
  g_PaceError := glo_ok X G (c.fact 27 (by rfl))
  g_Statement := glo_ok X G (c.fact 28 (by rfl))
  g_Fill := glo_ok X G (c.fact 29 (by rfl))
  g_Copy := glo_ok X G (c.fact 30 (by rfl))
  g_Swap := glo_ok X G (c.fact 31 (by rfl))
  g_Raise := glo_ok X G (c.fact 32 (by rfl))
  g_Store := glo_ok X G (c.fact 33 (by rfl))
  g_View := glo_ok X G (c.fact 34 (by rfl))
  f_len := free_ok X G (c.fact 35 (by rfl))
  f_list := free_ok X G (c.fact 36 (by rfl))
  f_isinstance := free_ok X G (c.fact 37 (by rfl))
  f_int := free_ok X G (c.fact 38 (by rfl))
  f_bool := free_ok X G (c.fact 39 (by rfl))
  f_tuple := free_ok X G (c.fact 40 (by rfl))
  f_zip := free_ok X G (c.fact 41 (by rfl))
  f_range := free_ok X G (c.fact 42 (by rfl))
  f_sum := free_ok X G (c.fact 43 (by rfl))
  f_min := free_ok X G (c.fact 44 (by rfl))
  f_max := free_ok X G (c.fact 45 (by rfl))
  f_ValueError := free_ok X G (c.fact 46 (by rfl))
  i_MOST_stores := int_ok X G (c.fact 47 (by rfl))
  i_MOST_views := int_ok X G (c.fact 48 (by rfl))
  i_MOST_ROOM := int_ok X G (c.fact 49 (by rfl))
  i_MOST_AXES := int_ok X G (c.fact 50 (by rfl))
  i_MOST_SIZE := int_ok X G (c.fact 51 (by rfl))
  c_Statement := cls_ok (c.fact 52 (by rfl))
  c_Fill := cls_ok (c.fact 53 (by rfl))
  c_Copy := cls_ok (c.fact 54 (by rfl))
  c_Swap := cls_ok (c.fact 55 (by rfl))
  c_Raise := cls_ok (c.fact 56 (by rfl))
  c_Store := cls_ok (c.fact 57 (by rfl))
  c_View := cls_ok (c.fact 58 (by rfl))
  n_View_room := noat_ok (c.fact 59 (by rfl))
  n_View_first := noat_ok (c.fact 60 (by rfl))
  n_View_axes := noat_ok (c.fact 61 (by rfl))
  n_Store_held := noat_ok (c.fact 62 (by rfl))
  n_Fill_to := noat_ok (c.fact 63 (by rfl))
  n_Fill_value := noat_ok (c.fact 64 (by rfl))
  n_Copy_to := noat_ok (c.fact 65 (by rfl))
  n_Copy_source := noat_ok (c.fact 66 (by rfl))
  n_Swap_one := noat_ok (c.fact 67 (by rfl))
  n_Swap_other := noat_ok (c.fact 68 (by rfl))
  n_Raise_to := noat_ok (c.fact 69 (by rfl))
  n_Raise_source := noat_ok (c.fact 70 (by rfl))
  n_TooMany_number := noat_ok (c.fact 71 (by rfl))
  m_View_sizes := meth_ok (c.fact 72 (by rfl))
  m_View_count := meth_ok (c.fact 73 (by rfl))
  m_View_cells := meth_ok (c.fact 74 (by rfl))
  m_View_least := meth_ok (c.fact 75 (by rfl))
  m_View_greatest := meth_ok (c.fact 76 (by rfl))
  m_Store_need := meth_ok (c.fact 77 (by rfl))
  m_Store_all_values := meth_ok (c.fact 78 (by rfl))
  m_Store_read := meth_ok (c.fact 79 (by rfl))
  m_Store_put := meth_ok (c.fact 80 (by rfl))
  m_Store_fill := meth_ok (c.fact 81 (by rfl))
  m_Store_copied := meth_ok (c.fact 82 (by rfl))
  m_Statement_writes := meth_ok (c.fact 83 (by rfl))
  m_Statement_reads := meth_ok (c.fact 84 (by rfl))
  m_Statement_run := meth_ok (c.fact 85 (by rfl))
  m_Fill_writes := meth_ok (c.fact 86 (by rfl))
  m_Fill_reads := meth_ok (c.fact 87 (by rfl))
  m_Fill_run := meth_ok (c.fact 88 (by rfl))
  m_Copy_writes := meth_ok (c.fact 89 (by rfl))
  m_Copy_reads := meth_ok (c.fact 90 (by rfl))
  m_Copy_run := meth_ok (c.fact 91 (by rfl))
  m_Swap_writes := meth_ok (c.fact 92 (by rfl))
  m_Swap_reads := meth_ok (c.fact 93 (by rfl))
  m_Swap_run := meth_ok (c.fact 94 (by rfl))
  m_Raise_writes := meth_ok (c.fact 95 (by rfl))
  m_Raise_reads := meth_ok (c.fact 96 (by rfl))
  m_Raise_run := meth_ok (c.fact 97 (by rfl))
  k_Fill := mkr_ok (c.fact 98 (by rfl))
  k_Copy := mkr_ok (c.fact 99 (by rfl))
  k_Swap := mkr_ok (c.fact 100 (by rfl))
  k_Raise := mkr_ok (c.fact 101 (by rfl))
  k_Store := mkr_ok (c.fact 102 (by rfl))
  k_View := mkr_ok (c.fact 103 (by rfl))
  e_NoView := exc_ok (c.fact 104 (by rfl))
  e_NoCount := exc_ok (c.fact 105 (by rfl))
  e_NoPair := exc_ok (c.fact 106 (by rfl))
  x_NoView := exm_ok (c.fact 107 (by rfl))
  x_NoCount := exm_ok (c.fact 108 (by rfl))
  x_NoPair := exm_ok (c.fact 109 (by rfl))
  x_TooMany := exm_ok (c.fact 110 (by rfl))
  d_need_pair := c.def_ 0 (by rfl)
  d_is_whole := c.def_ 1 (by rfl)
  d_count_of := c.def_ 2 (by rfl)
  d_is_axis := c.def_ 3 (by rfl)
  d_kept_axes := c.def_ 4 (by rfl)
  d__law_draw := c.def_ 5 (by rfl)
  d__law_whole := c.def_ 6 (by rfl)
  d__law_list := c.def_ 7 (by rfl)
  d__law_sizes := c.def_ 8 (by rfl)
  d__law_axes := c.def_ 9 (by rfl)
  d__law_reach := c.def_ 10 (by rfl)
  d__law_views := c.def_ 11 (by rfl)
  d__law_cells := c.def_ 12 (by rfl)
  d__law_values := c.def_ 13 (by rfl)
  d__law_view := c.def_ 14 (by rfl)
  d__law_same := c.def_ 15 (by rfl)
  d__law_made := c.def_ 16 (by rfl)
  d__law_told := c.def_ 17 (by rfl)
  d__law_due := c.def_ 18 (by rfl)
  d__law_word := c.def_ 19 (by rfl)
  d__law_refused := c.def_ 20 (by rfl)
  d__law_all_refused := c.def_ 21 (by rfl)
  d_law := c.def_ 22 (by rfl)
  d_TooMany___init__ := c.def_ 23 (by rfl)
  d_Statement_writes := c.def_ 24 (by rfl)
  d_Statement_reads := c.def_ 25 (by rfl)
  d_Statement_run := c.def_ 26 (by rfl)
  d_Fill___init__ := c.def_ 27 (by rfl)
  d_Fill_writes := c.def_ 28 (by rfl)
  d_Fill_run := c.def_ 29 (by rfl)
  d_Copy___init__ := c.def_ 30 (by rfl)
  d_Copy_writes := c.def_ 31 (by rfl)
  d_Copy_reads := c.def_ 32 (by rfl)
  d_Copy_run := c.def_ 33 (by rfl)
  d_Swap___init__ := c.def_ 34 (by rfl)
  d_Swap_writes := c.def_ 35 (by rfl)
  d_Swap_reads := c.def_ 36 (by rfl)
  d_Swap_run := c.def_ 37 (by rfl)
  d_Raise___init__ := c.def_ 38 (by rfl)
  d_Raise_writes := c.def_ 39 (by rfl)
  d_Raise_reads := c.def_ 40 (by rfl)
  d_Raise_run := c.def_ 41 (by rfl)
  d_Store___init__ := c.def_ 42 (by rfl)
  d_Store_need := c.def_ 43 (by rfl)
  d_Store_all_values := c.def_ 44 (by rfl)
  d_Store_read := c.def_ 45 (by rfl)
  d_Store_put := c.def_ 46 (by rfl)
  d_Store_fill := c.def_ 47 (by rfl)
  d_Store_copied := c.def_ 48 (by rfl)
  d_View___init__ := c.def_ 49 (by rfl)
  d_View_sizes := c.def_ 50 (by rfl)
  d_View_count := c.def_ 51 (by rfl)
  d_View_cells := c.def_ 52 (by rfl)
  d_View_least := c.def_ 53 (by rfl)
  d_View_greatest := c.def_ 54 (by rfl)
  d_Fill_reads := c.def_ 55 (by rfl)
  ext := ext_ok e
end K81
/-! The mathematics, what stands in the heap, the promises. -/
namespace K81
open PySem PySem.Spec PyProof.Rows L2

/-! ### plain lists -/
theorem take_more {α : Type} : ∀ {l : List α} {i : Nat} {x : α}, l[i]? = some x → l.take (i + 1) = l.take i ++ [x]
  | [], i, x, h => by simp at h
  | a :: l, 0, x, h => by
    have e : a = x := Option.some.inj h
    subst e
    rfl
  | a :: l, i + 1, x, h => by
    have ih := take_more (l := l) (i := i) (x := x) h
    show a :: l.take (i + 1) = a :: l.take i ++ [x]
    rw [ih]
    rfl
theorem fold_more {α β : Type} {f : β → α → β} {a : β} {l : List α} {i : Nat} {x : α} (h : l[i]? = some x) : (l.take (i + 1)).foldl f a = f ((l.take i).foldl f a) x := by
  rw [take_more h, List.foldl_append]
  rfl
theorem map_at {α β : Type} {f : α → β} {l : List α} {i : Nat} {y : β} (h : (l.map f)[i]? = some y) : ∃ x, l[i]? = some x ∧ y = f x := by
  rw [List.getElem?_map] at h
  cases e : l[i]? with
  | none =>
    rw [e] at h
    cases h
  | some x =>
    rw [e] at h
    exact ⟨x, rfl, (Option.some.inj h).symm⟩
theorem at_lt {α : Type} {l : List α} {i : Nat} {x : α} (h : l[i]? = some x) : i < l.length := (List.getElem?_eq_some_iff.mp h).1
theorem at_mem {α : Type} {l : List α} {i : Nat} {x : α} (h : l[i]? = some x) : x ∈ l := List.mem_of_getElem? h

/-! ### axes -/
abbrev Ax := List (Int × Int)
def cntL (ns : List Int) : Int := ns.foldl (fun c n => c * n) 1
def cnt (ax : Ax) : Int := cntL (ax.map (·.1))
def mn (x : Int) : Int := if x < 0 then x else 0
def mx (x : Int) : Int := if x > 0 then x else 0
def lowA (ax : Ax) : Int := (ax.map fun p => mn (p.2 * (p.1 - 1))).sum
def highA (ax : Ax) : Int := (ax.map fun p => mx (p.2 * (p.1 - 1))).sum
def keep1 (p : Int × Int) : Int × Int := if p.1 = 1 then (1, 0) else p
def kept (ax : Ax) : Ax := ax.map keep1
def spanC (c : Int) (p : Int × Int) : List Int := (List.range p.1.toNat).map fun (k : Nat) => c + p.2 * (k : Int)
def stepC (cs : List Int) (p : Int × Int) : List Int := cs.flatMap fun c => spanC c p
def cellsF (first : Int) (ax : Ax) : List Int := ax.foldl stepC [first]
theorem spanC_keep (c : Int) (p : Int × Int) : spanC c (keep1 p) = spanC c p := by
  unfold keep1
  split
  · rename_i h
    unfold spanC
    rw [h]
    show [c + 0 * ((0 : Nat) : Int)] = [c + p.2 * ((0 : Nat) : Int)]
    simp
  · rfl
theorem stepC_keep (cs : List Int) (p : Int × Int) : stepC cs (keep1 p) = stepC cs p := by
  unfold stepC
  congr 1
  funext c
  exact spanC_keep c p
theorem kept_cells (ax : Ax) : ∀ cs : List Int, (kept ax).foldl stepC cs = ax.foldl stepC cs := by
  induction ax with
  | nil => intro cs; rfl
  | cons p r ih =>
    intro cs
    show (kept r).foldl stepC (stepC cs (keep1 p)) = r.foldl stepC (stepC cs p)
    rw [stepC_keep]
    exact ih _
theorem cellsF_kept (first : Int) (ax : Ax) : cellsF first (kept ax) = cellsF first ax := kept_cells ax _
theorem keep1_fst (p : Int × Int) : (keep1 p).1 = p.1 := by
  unfold keep1
  split
  · rename_i h
    exact h.symm
  · rfl
theorem keep1_reach (p : Int × Int) : (keep1 p).2 * ((keep1 p).1 - 1) = p.2 * (p.1 - 1) := by
  unfold keep1
  split
  · rename_i h
    rw [h]
    simp
  · rfl
theorem kept_sizes (ax : Ax) : (kept ax).map (·.1) = ax.map (·.1) := by
  unfold kept
  rw [List.map_map]
  exact List.map_congr_left fun p _ => keep1_fst p
theorem cnt_kept (ax : Ax) : cnt (kept ax) = cnt ax := by
  unfold cnt
  rw [kept_sizes]
theorem low_kept (ax : Ax) : lowA (kept ax) = lowA ax := by
  unfold lowA kept
  rw [List.map_map]
  congr 1
  exact List.map_congr_left fun p _ => by
    show mn ((keep1 p).2 * ((keep1 p).1 - 1)) = _
    rw [keep1_reach]
theorem high_kept (ax : Ax) : highA (kept ax) = highA ax := by
  unfold highA kept
  rw [List.map_map]
  congr 1
  exact List.map_congr_left fun p _ => by
    show mx ((keep1 p).2 * ((keep1 p).1 - 1)) = _
    rw [keep1_reach]
theorem cntL_from (ns : List Int) : ∀ c : Int, ns.foldl (fun c n => c * n) c = c * cntL ns := by
  induction ns with
  | nil => intro c; simp [cntL]
  | cons n r ih =>
    intro c
    show r.foldl (fun c n => c * n) (c * n) = c * (r.foldl (fun c n => c * n) (1 * n))
    rw [ih, ih (1 * n), Int.one_mul, Int.mul_assoc]
theorem cntL_cons (n : Int) (r : List Int) : cntL (n :: r) = n * cntL r := by
  show r.foldl (fun c n => c * n) (1 * n) = _
  rw [cntL_from, Int.one_mul]
theorem cntL_append (a b : List Int) : cntL (a ++ b) = cntL a * cntL b := by
  unfold cntL
  rw [List.foldl_append, cntL_from b]
  rfl
theorem cntL_one (n : Int) : cntL [n] = n := by
  rw [cntL_cons]
  show n * 1 = n
  simp
theorem cntL_pos {ns : List Int} (h : ∀ n ∈ ns, 1 ≤ n) : 1 ≤ cntL ns := by
  induction ns with
  | nil => exact Int.le_refl 1
  | cons n r ih =>
    rw [cntL_cons]
    have h1 := h n (List.mem_cons_self ..)
    have h2 := ih fun m hm => h m (List.mem_cons_of_mem _ hm)
    have : 1 * 1 ≤ n * cntL r := Int.mul_le_mul h1 h2 (by omega) (by omega)
    simpa using this
theorem cntL_reverse (ns : List Int) : cntL ns.reverse = cntL ns := by
  induction ns with
  | nil => rfl
  | cons n r ih =>
    rw [List.reverse_cons, cntL_append, ih, cntL_one, cntL_cons, Int.mul_comm]
/-- a part is no greater -/
theorem cntL_part {a b : List Int} (ha : ∀ n ∈ a, 1 ≤ n) (hb : ∀ n ∈ b, 1 ≤ n) : cntL b ≤ cntL (a ++ b) := by
  rw [cntL_append]
  have h1 := cntL_pos ha
  have h2 := cntL_pos hb
  have : 1 * cntL b ≤ cntL a * cntL b := Int.mul_le_mul_of_nonneg_right h1 (by omega)
  simpa using this
theorem spanC_len (c : Int) (p : Int × Int) : (spanC c p).length = p.1.toNat := by simp [spanC]
theorem stepC_len (cs : List Int) (p : Int × Int) : (stepC cs p).length = cs.length * p.1.toNat := by
  unfold stepC
  induction cs with
  | nil => simp
  | cons c r ih =>
    rw [List.flatMap_cons, List.length_append, ih, spanC_len, List.length_cons, Nat.succ_mul, Nat.add_comm]
theorem cells_len {ax : Ax} (h : ∀ p ∈ ax, 0 ≤ p.1) : ∀ cs : List Int, ((ax.foldl stepC cs).length : Int) = (cs.length : Int) * cnt ax := by
  induction ax with
  | nil =>
    intro cs
    show (cs.length : Int) = (cs.length : Int) * 1
    simp
  | cons p r ih =>
    intro cs
    show ((r.foldl stepC (stepC cs p)).length : Int) = _
    rw [ih fun q hq => h q (List.mem_cons_of_mem _ hq), stepC_len]
    have h0 := h p (List.mem_cons_self ..)
    show ((cs.length * p.1.toNat : Nat) : Int) * cnt r = (cs.length : Int) * cntL (p.1 :: r.map (·.1))
    rw [cntL_cons, Int.natCast_mul, Int.toNat_of_nonneg h0, Int.mul_assoc]
    rfl
theorem cellsF_len {first : Int} {ax : Ax} (h : ∀ p ∈ ax, 0 ≤ p.1) : ((cellsF first ax).length : Int) = cnt ax := by
  unfold cellsF
  rw [cells_len h]
  show (1 : Int) * cnt ax = cnt ax
  simp
theorem spanC_in {c x : Int} {p : Int × Int} (h : 1 ≤ p.1) (hx : x ∈ spanC c p) : c + mn (p.2 * (p.1 - 1)) ≤ x ∧ x ≤ c + mx (p.2 * (p.1 - 1)) := by
  unfold spanC at hx
  obtain ⟨k, hk, rfl⟩ := List.mem_map.mp hx
  have hk := List.mem_range.mp hk
  have k1 : (k : Int) ≤ p.1 - 1 := by omega
  have k0 : (0 : Int) ≤ (k : Int) := by omega
  obtain ⟨n, q⟩ := p
  dsimp only at *
  by_cases hq : 0 ≤ q
  · have a1 : 0 ≤ q * (k : Int) := Int.mul_nonneg hq k0
    have a2 : q * (k : Int) ≤ q * (n - 1) := Int.mul_le_mul_of_nonneg_left k1 hq
    generalize q * (k : Int) = A at *
    generalize q * (n - 1) = B at *
    unfold mn mx
    constructor <;> split <;> omega
  · have hq' : 0 ≤ -q := by omega
    have a1 : 0 ≤ (-q) * (k : Int) := Int.mul_nonneg hq' k0
    have a2 : (-q) * (k : Int) ≤ (-q) * (n - 1) := Int.mul_le_mul_of_nonneg_left k1 hq'
    rw [Int.neg_mul] at a1 a2
    rw [Int.neg_mul] at a2
    generalize q * (k : Int) = A at *
    generalize q * (n - 1) = B at *
    unfold mn mx
    constructor <;> split <;> omega
theorem cells_in {ax : Ax} (h : ∀ p ∈ ax, 1 ≤ p.1) : ∀ {cs : List Int} {a b : Int}, (∀ c ∈ cs, a ≤ c ∧ c ≤ b) → ∀ x ∈ ax.foldl stepC cs, a + lowA ax ≤ x ∧ x ≤ b + highA ax := by
  induction ax with
  | nil =>
    intro cs a b hc x hx
    have q := hc x hx
    show a + 0 ≤ x ∧ x ≤ b + 0
    omega
  | cons p r ih =>
    intro cs a b hc x hx
    have q := ih (fun q hq => h q (List.mem_cons_of_mem _ hq)) (cs := stepC cs p) (a := a + mn (p.2 * (p.1 - 1))) (b := b + mx (p.2 * (p.1 - 1))) (fun y hy => by
      unfold stepC at hy
      obtain ⟨c, hc1, hc2⟩ := List.mem_flatMap.mp hy
      have z := spanC_in (h p (List.mem_cons_self ..)) hc2
      have z2 := hc c hc1
      omega) x hx
    have e1 : lowA (p :: r) = mn (p.2 * (p.1 - 1)) + lowA r := by unfold lowA; rw [List.map_cons, List.sum_cons]
    have e2 : highA (p :: r) = mx (p.2 * (p.1 - 1)) + highA r := by unfold highA; rw [List.map_cons, List.sum_cons]
    rw [e1, e2]
    omega
theorem cellsF_in {first : Int} {ax : Ax} (h : ∀ p ∈ ax, 1 ≤ p.1) {x : Int} (hx : x ∈ cellsF first ax) : first + lowA ax ≤ x ∧ x ≤ first + highA ax :=
  cells_in h (cs := [first]) (a := first) (b := first) (fun c hc => by
    have e : c = first := by simpa using hc
    omega) x hx
def AOk (ax : Ax) : Prop := ax.length ≤ 8 ∧ ∀ p ∈ ax, 1 ≤ p.1 ∧ p.1 ≤ 1000000000
def VOk (room first : Int) (ax : Ax) : Prop := AOk ax ∧ 0 ≤ first + lowA ax ∧ first + highA ax < room
theorem VOk.cells {room first : Int} {ax : Ax} (h : VOk room first ax) {c : Int} (hc : c ∈ cellsF first ax) : 0 ≤ c ∧ c < room := by
  obtain ⟨⟨_, h1⟩, h2, h3⟩ := h
  have q := cellsF_in (fun p hp => (h1 p hp).1) hc
  omega
theorem VOk.len {room first : Int} {ax : Ax} (h : VOk room first ax) : ((cellsF first ax).length : Int) = cnt ax := cellsF_len fun p hp => by
  have := (h.1.2 p hp).1
  omega
theorem VOk.pos {room first : Int} {ax : Ax} (h : VOk room first ax) : 1 ≤ cnt ax := cntL_pos fun n hn => by
  obtain ⟨p, hp, rfl⟩ := List.mem_map.mp hn
  exact (h.1.2 p hp).1

/-! ### the store's values -/
def readV (vals cs : List Int) : List Int := cs.map fun c => vals.getD c.toNat 0
def writeV (vals cs ns : List Int) : List Int := (cs.zip ns).foldl (fun vs p => vs.set p.1.toNat p.2) vals
def fillV (vals cs : List Int) (x : Int) : List Int := cs.foldl (fun vs c => vs.set c.toNat x) vals
theorem fold_set_len (l : List (Int × Int)) : ∀ vals : List Int, (l.foldl (fun vs p => vs.set p.1.toNat p.2) vals).length = vals.length := by
  induction l with
  | nil => intro vals; rfl
  | cons p r ih =>
    intro vals
    show (r.foldl _ (vals.set p.1.toNat p.2)).length = _
    rw [ih, List.length_set]
theorem writeV_len (vals cs ns : List Int) : (writeV vals cs ns).length = vals.length := fold_set_len _ _
theorem fillV_len (cs : List Int) (x : Int) : ∀ vals : List Int, (fillV vals cs x).length = vals.length := by
  induction cs with
  | nil => intro vals; rfl
  | cons c r ih =>
    intro vals
    show (fillV (vals.set c.toNat x) r x).length = _
    rw [ih, List.length_set]
theorem readV_len (vals cs : List Int) : (readV vals cs).length = cs.length := by simp [readV]
/-- what a statement of a way leaves -/
def dueV (way : Nat) (vals here there : List Int) (x : Int) : List Int := match way with
  | 0 => vals
  | 1 => fillV vals here x
  | 2 => writeV vals here (readV vals there)
  | 3 => writeV (writeV vals here (readV vals there)) there (readV vals here)
  | _ => writeV vals here (List.zipWith (· + ·) (readV vals here) (readV vals there))
theorem dueV_len (way : Nat) (vals here there : List Int) (x : Int) : (dueV way vals here there x).length = vals.length := by
  unfold dueV
  split
  · rfl
  · exact fillV_len _ _ _
  · exact writeV_len _ _ _
  · rw [writeV_len, writeV_len]
  · exact writeV_len _ _ _

/-! ### fields -/
theorem putF_no {f m : Str} {v : V} {fs : List (Str × V)} (h : ¬ m = f) : (putF f v fs).lookup m = fs.lookup m := by rw [lookup_putF, if_neg h]
theorem putF_at {f : Str} {v : V} {fs : List (Str × V)} : (putF f v fs).lookup f = some v := by rw [lookup_putF, if_pos rfl]
/-- the fields f, g of an instance -/
def f2 (f g : Str) (x y : V) : List (Str × V) := putF g y (putF f x [])
theorem f2_fst {f g : Str} {x y : V} (h : ¬ f = g) : (f2 f g x y).lookup f = some x := by
  unfold f2
  rw [putF_no h, putF_at]
theorem f2_snd {f g : Str} {x y : V} : (f2 f g x y).lookup g = some y := putF_at
theorem f2_no {f g m : Str} {x y : V} (h1 : ¬ m = f) (h2 : ¬ m = g) : (f2 f g x y).lookup m = none := by
  unfold f2
  rw [putF_no h2, putF_no h1]
  all_goals rfl
theorem f1_no {f m : Str} {x : V} (h1 : ¬ m = f) : (putF f x []).lookup m = none := by
  rw [putF_no h1]
  all_goals rfl
/-- a view's fields -/
def vf (room first : Int) (l : Addr) : List (Str × V) := putF "axes" (.ref l) (putF "first" (.int first) (putF "room" (.int room) []))
theorem vf_room (room first : Int) (l : Addr) : (vf room first l).lookup ("room" : Str) = some (.int room) := by
  unfold vf
  rw [putF_no (by decide +kernel), putF_no (by decide +kernel), putF_at]
theorem vf_first (room first : Int) (l : Addr) : (vf room first l).lookup ("first" : Str) = some (.int first) := by
  unfold vf
  rw [putF_no (by decide +kernel), putF_at]
theorem vf_axes (room first : Int) (l : Addr) : (vf room first l).lookup ("axes" : Str) = some (.ref l) := putF_at
theorem vf_no (room first : Int) (l : Addr) {m : Str} (h1 : ¬ m = "room") (h2 : ¬ m = "first") (h3 : ¬ m = "axes") : (vf room first l).lookup m = none := by
  unfold vf
  rw [putF_no h3, putF_no h2, putF_no h1]
  all_goals rfl

/-! ### what stands in the heap -/
def Tups (H : Hp) (ts : List Addr) (ax : Ax) : Prop := ts.length = ax.length ∧ ∀ (i : Nat) (t : Addr) (p : Int × Int), ts[i]? = some t → ax[i]? = some p → H t = some (.tup [.int p.1, .int p.2])
theorem Tups.mono {H H' : Hp} {ts : List Addr} {ax : Ax} (s : Same H H') (h : Tups H ts ax) : Tups H' ts ax := ⟨h.1, fun i t p a b => s _ _ (h.2 i t p a b)⟩
theorem Tups.nil {H : Hp} : Tups H [] [] := ⟨rfl, fun i t p a _ => by cases a⟩
theorem Tups.push {H : Hp} {ts : List Addr} {ax : Ax} {t : Addr} {p : Int × Int} (h : Tups H ts ax) (e : H t = some (.tup [.int p.1, .int p.2])) : Tups H (ts ++ [t]) (ax ++ [p]) := by
  refine ⟨by rw [List.length_append, List.length_append, h.1]; rfl, fun i u q a b => ?_⟩
  by_cases hi : i < ts.length
  · rw [List.getElem?_append_left hi] at a
    rw [List.getElem?_append_left (by rw [← h.1]; exact hi)] at b
    exact h.2 i u q a b
  · rw [List.getElem?_append_right (Nat.le_of_not_lt hi)] at a
    rw [List.getElem?_append_right (by rw [← h.1]; exact Nat.le_of_not_lt hi)] at b
    have z : i - ts.length = 0 := by
      have := at_lt a
      simpa using this
    rw [z] at a
    rw [← h.1, z] at b
    have ea : t = u := by simpa using a
    have eb : p = q := by simpa using b
    rw [← ea, ← eb]
    exact e
theorem Tups.cons {H : Hp} {ts : List Addr} {ax : Ax} {t : Addr} {p : Int × Int} (h : Tups H ts ax) (e : H t = some (.tup [.int p.1, .int p.2])) : Tups H (t :: ts) (p :: ax) := by
  refine ⟨by rw [List.length_cons, List.length_cons, h.1], fun i u q a b => ?_⟩
  cases i with
  | zero =>
    have ea : t = u := Option.some.inj a
    have eb : p = q := Option.some.inj b
    rw [← ea, ← eb]
    exact e
  | succ i => exact h.2 i u q a b
theorem Tups.at_ {H : Hp} {ts : List Addr} {ax : Ax} (h : Tups H ts ax) {i : Nat} {x : V} (e : (ts.map V.ref)[i]? = some x) : ∃ t p, x = .ref t ∧ ts[i]? = some t ∧ ax[i]? = some p ∧ H t = some (.tup [.int p.1, .int p.2]) := by
  obtain ⟨t, ht, rfl⟩ := map_at e
  have hi : i < ax.length := by rw [← h.1]; exact at_lt ht
  exact ⟨t, ax[i], rfl, ht, List.getElem?_eq_getElem hi, h.2 i t _ ht (List.getElem?_eq_getElem hi)⟩
def AxAt (H : Hp) (l : Addr) (ax : Ax) : Prop := ∃ ts : List Addr, H l = some (.lst (ts.map V.ref)) ∧ Tups H ts ax
theorem AxAt.mono {H H' : Hp} {l : Addr} {ax : Ax} (s : Same H H') (h : AxAt H l ax) : AxAt H' l ax := let ⟨ts, a, b⟩ := h; ⟨ts, s _ _ a, b.mono s⟩
open He in
def ViewAt (K : PySem.W.Frag) (H : Hp) (v : Addr) (room first : Int) (ax : Ax) : Prop := VOk room first ax ∧ ∃ dx l, H v = some (.ins (ga K "View") dx (vf room first l)) ∧ AxAt H l ax
theorem ViewAt.mono {K : PySem.W.Frag} {H H' : Hp} {v : Addr} {room first : Int} {ax : Ax} (s : Same H H') (h : ViewAt K H v room first ax) : ViewAt K H' v room first ax := let ⟨a, dx, l, b, c⟩ := h; ⟨a, dx, l, s _ _ b, c.mono s⟩
open He in
def StoreAt (K : PySem.W.Frag) (H : Hp) (s h : Addr) (vals : List Int) : Prop := (0 < vals.length ∧ vals.length ≤ 4096) ∧ ∃ dx, H s = some (.ins (ga K "Store") dx (putF "held" (.ref h) [])) ∧ H h = some (.lst (vals.map V.int))
theorem StoreAt.mono {K : PySem.W.Frag} {H H' : Hp} {s h : Addr} {vals : List Int} (m : Same H H') (x : StoreAt K H s h vals) : StoreAt K H' s h vals := let ⟨z, dx, a, b⟩ := x; ⟨z, dx, m _ _ a, m _ _ b⟩
/-- a view does not look at the store's list -/
theorem ViewAt.but {K : PySem.W.Frag} {H H' : Hp} {v h : Addr} {room first : Int} {ax : Ax} {xs : List Int} (b : But h H H') (hh : H h = some (.lst (xs.map V.int))) (hx : 0 < xs.length) (x : ViewAt K H v room first ax) : ViewAt K H' v room first ax := by
  obtain ⟨a, dx, l, e, ts, e1, e2⟩ := x
  refine ⟨a, dx, l, b _ _ (fun z => ?_) e, ts, b _ _ (fun z => ?_) e1, e2.1, fun i t p a1 a2 => b _ _ (fun z => ?_) (e2.2 i t p a1 a2)⟩
  · rw [z, hh] at e
    cases e
  · rw [z, hh] at e1
    cases xs with
    | nil => exact absurd hx (by simp)
    | cons y ys =>
      have q : (y :: ys).map V.int = ts.map V.ref := by
        have := Option.some.inj e1
        injection this
      cases ts with
      | nil => cases q
      | cons t r =>
        rw [List.map_cons, List.map_cons] at q
        injection q with q1 _
        cases q1
  · have q := e2.2 i t p a1 a2
    rw [z, hh] at q
    cases q
end K81
/-! The promises, calls in short. -/
namespace K81
open PySem PySem.Spec PyProof.Rows L2 He

/-! ### calls in short -/
section
variable (P : Program) (w : World) (K : PySem.W.Frag) (mg : Str → Option Value) (base : Heap)
/-- a def of the module -/
structure Gd (CX : CXT) (k : Nat) (x : Str) (ps : List Str) (sp : Sp) : Prop where
  ex : ∃ f fd, FnOk P w K mg base CX k f fd ps sp ∧ mg x = some (.ref f) ∧ PySem.W.keepIn K (.ref f) = true ∧ Binds K fd ps []
/-- a method of a class -/
structure Md (CX : CXT) (k : Nat) (c m : Str) (ps : List Str) (sp : Sp) : Prop where
  ex : ∃ f fd, FnOk P w K mg base CX k f fd ps sp ∧ Cls K (ga K c) ∧ Meth K (ga K c) m f ∧ Binds K fd ps []
/-- a class, by its __init__ -/
structure Kl (CX : CXT) (k : Nat) (c : Str) (ps : List Str) (sp : Sp) : Prop where
  ex : ∃ f fd, FnOk P w K mg base CX k f fd ps sp ∧ Mk K (ga K c) f ∧ mg c = some (.ref (ga K c)) ∧ Binds K fd ps []
end
section
variable {X : Cx} {CX : CXT} {k : Nat} {ps : List Str} {sp : Sp} {E : XK} {x c m : Str} {p pos apos : Pos} {e o : Expr} {es : List Expr} {ta : TE} {t : TA}
theorem pe_g (G : Gd X.prog X.w X.K X.mg X.base CX k x ps sp) (hr : Room k X.A) (hx : Passes CX X E) (ha : PA X (e :: es) t) (hg : Gl X x := by rfl) (hdb : (x == ("__debug__" : Str)) = false := by decide)
    (he : starEach (e :: es) X.env = (false, eval e X.env) :: starEach es X.env := by rfl) (hpl : (backTo pos (starEach es X.env)).any (·.1) = false := by rfl) : PE X (.Call (.Name x p) (e :: es) [] pos) (tCall sp [] E t) := by
  obtain ⟨f, fd, F, hm, hk, hb⟩ := G.ex
  exact pe_call F hr hg hm hk hb .nil hx ha hdb he hpl
theorem pe_gS {E : L2.St → XK} (G : Gd X.prog X.w X.K X.mg X.base CX k x ps sp) (hr : Room k X.A) (hx : ∀ σ, PassesAt CX X σ (E σ)) (ha : PA X (e :: es) t) (hg : Gl X x := by rfl) (hdb : (x == ("__debug__" : Str)) = false := by decide)
    (he : starEach (e :: es) X.env = (false, eval e X.env) :: starEach es X.env := by rfl) (hpl : (backTo pos (starEach es X.env)).any (·.1) = false := by rfl) : PE X (.Call (.Name x p) (e :: es) [] pos) (tCallS sp E t) := by
  obtain ⟨f, fd, F, hm, hk, hb⟩ := G.ex
  exact pe_callS F hr hg hm hk hb hx ha hdb he hpl
theorem pe_m {pl : Sem Bool} (he : PE X o ta) (G : Md X.prog X.w X.K X.mg X.base CX k c m ps sp) (hr : Room k X.A) (hx : Passes CX X E) (ha : PA X (e :: es) t)
    (hst : starEach (e :: es) X.env = (false, eval e X.env) :: starEach es X.env := by rfl) (hpl : (backTo pos (starEach es X.env)).any (·.1) = false := by rfl)
    (ht : eval (.Call (.Attribute o m apos) (e :: es) [] pos) X.env = (do
      let ov ← eval o X.env
      standAt apos.atName
      let (f, first) ← holding [ov] (getMethod ov m pl)
      callWith pos f first (backTo pos (starEach (e :: es) X.env)) (backToKw pos (keywordEach [] X.env))) := by rfl) :
    PE X (.Call (.Attribute o m apos) (e :: es) [] pos) (tMeth (ga X.K c) m sp [] E ta t) := by
  obtain ⟨f, fd, F, hc, hm, hb⟩ := G.ex
  exact pe_meth he hc hm F hr hb .nil hx ha hst hpl ht
theorem pe_m0 {pl : Sem Bool} (he : PE X o ta) (G : Md X.prog X.w X.K X.mg X.base CX k c m ps sp) (hr : Room k X.A) (hx : Passes CX X E)
    (ht : eval (.Call (.Attribute o m apos) [] [] pos) X.env = (do
      let ov ← eval o X.env
      standAt apos.atName
      let (f, first) ← holding [ov] (getMethod ov m pl)
      callWith pos f first (backTo pos (starEach [] X.env)) (backToKw pos (keywordEach [] X.env))) := by rfl) :
    PE X (.Call (.Attribute o m apos) [] [] pos) (tMeth (ga X.K c) m sp [] E ta tNil) := by
  obtain ⟨f, fd, F, hc, hm, hb⟩ := G.ex
  exact pe_meth0 he hc hm F hr hb .nil hx ht
theorem pe_mT {E : L2.St → XK} {pl : Sem Bool} (he : PE X o ta) (G : Md X.prog X.w X.K X.mg X.base CX k c m ps sp) (hr : Room k X.A) (hx : ∀ σ, PassesAt CX X σ (E σ)) (ha : PA X (e :: es) t)
    (hst : starEach (e :: es) X.env = (false, eval e X.env) :: starEach es X.env := by rfl) (hpl : (backTo pos (starEach es X.env)).any (·.1) = false := by rfl)
    (ht : eval (.Call (.Attribute o m apos) (e :: es) [] pos) X.env = (do
      let ov ← eval o X.env
      standAt apos.atName
      let (f, first) ← holding [ov] (getMethod ov m pl)
      callWith pos f first (backTo pos (starEach (e :: es) X.env)) (backToKw pos (keywordEach [] X.env))) := by rfl) :
    PE X (.Call (.Attribute o m apos) (e :: es) [] pos) (tMethT (ga X.K c) m sp E ta t) := by
  obtain ⟨f, fd, F, hc, hm, hb⟩ := G.ex
  exact pe_methT he hc hm F hr hb hx ha hst hpl ht
theorem pe_k (G : Kl X.prog X.w X.K X.mg X.base CX k c ps sp) (hr : Room (k + 1) X.A) (hx : Passes CX X E) (ha : PA X (e :: es) t) (hg : Gl X c := by rfl) (hdb : (c == ("__debug__" : Str)) = false := by decide)
    (he : starEach (e :: es) X.env = (false, eval e X.env) :: starEach es X.env := by rfl) (hpl : (backTo pos (starEach es X.env)).any (·.1) = false := by rfl) : PE X (.Call (.Name c p) (e :: es) [] pos) (tMake (ga X.K c) sp [] E t) := by
  obtain ⟨f, fd, F, M, hm, hb⟩ := G.ex
  exact pe_make M F hr hg hm hb .nil hx ha hdb he hpl
end
section
variable {P : Program} {w : World} {K : PySem.W.Frag} {mg : Str → Option Value} {base : Heap} {x q : Str} {st : Stmt} {f : Addr} {fd : FuncData} {N ps : List Str} {k : Nat} {sp : Sp}
theorem fok0 (F : FnP K x q st f fd) (S : FnScope N ps (defScope st)) (len : ∀ vs H Q E, sp vs H Q E → vs.length = ps.length)
    (hbody : ∀ (cdv : Value) (A : Around) (outer : List Env) (s : Shared) (H : Hp) (vs : List V) (Q : VK) (E : XK), Room k (A.deeper (envOfC q (defScope st) s.heap.objs.size f cdv)) → sp vs H Q E →
      ∃ t, PSs (cxOf CX0 P w K mg base N q (defScope st) f cdv A outer s H E).nox (defBody st) t ∧ t { nx := fun _ H' => Q .non H', rt := Q } (start N vs) H) : FnOk P w K mg base CX0 (k + 1) f fd ps sp :=
  F.ok S len fun cdv A outer s H vs Q E hr h => by
    obtain ⟨t, a, b⟩ := hbody cdv A outer s H vs Q E hr h
    exact ⟨t, a.nox, b⟩
theorem fokX (F : FnP K x q st f fd) (S : FnScope N ps (defScope st)) (len : ∀ vs H Q E, sp vs H Q E → vs.length = ps.length)
    (hbody : ∀ (cdv : Value) (A : Around) (outer : List Env) (s : Shared) (H : Hp) (vs : List V) (Q : VK) (E : XK), Room k (A.deeper (envOfC q (defScope st) s.heap.objs.size f cdv)) → sp vs H Q E →
      ∃ t, PSs (cxOf (L2.CX P w) P w K mg base N q (defScope st) f cdv A outer s H E) (defBody st) t ∧ t { nx := fun _ H' => Q .non H', rt := Q } (start N vs) H) : FnOk P w K mg base (L2.CX P w) (k + 1) f fd ps sp :=
  F.ok S len fun cdv A outer s H vs Q E hr h => hbody cdv A outer s H vs Q E hr h
theorem bnd (F : FnP K x q st f fd) (h : ∀ (kV doc pm : Value) (an : Option Addr) (cdv ct : Value) (us : List Value), us.length = ps.length → bindArgs (PySem.W.fnOf x q (defArgs st) (defBody st) (defScope st) .none kV doc pm an cdv ct) ⟨us, []⟩ = pure (ps.zip us)) : Binds K fd ps [] := F.bindsN h
end

/-! ### refusals -/
def Kd.word : Kd → Str
  | .pair => "pair"
  | .count => "count"
  | .view => "view"
  | .many => "many"
def Kd.num (k : Kd) (n : Int) : Int := match k with
  | .many => n
  | _ => 0
/-- an exception's own dict -/
def DictAt (H : Hp) (k : Kd) (n : Int) (d : Option Addr) : Prop := match k with
  | .many => ∃ dd, d = some dd ∧ H dd = some (.xd [("number", .int n)])
  | _ => d = none
theorem DictAt.mono {H H' : Hp} {k : Kd} {n : Int} {d : Option Addr} (s : Same H H') (h : DictAt H k n d) : DictAt H' k n d := by
  cases k with
  | many =>
    obtain ⟨dd, a, b⟩ := h
    exact ⟨dd, a, s _ _ b⟩
  | _ => exact h
/-- the way out by a refusal of the kind k -/
def ER (K : PySem.W.Frag) (E : XK) (H : Hp) (k : Kd) (n : Int) : Prop := ∀ H' d, Same H H' → DictAt H' k n d → E (.ref (ga K k.nm)) d H'
theorem ER.mono {K : PySem.W.Frag} {E : XK} {H H' : Hp} {k : Kd} {n : Int} (s : Same H H') (h : ER K E H k n) : ER K E H' k n := fun H2 d s2 e => h H2 d (s.trans s2) e

/-! ### the promises -/
def spIsWhole : Sp := fun vs H Q _ => ∃ i : Int, vs = [.int i] ∧ Q (.bl true) H
def spCountOf (K : PySem.W.Frag) : Sp := fun vs H Q _ => ∃ (l : Addr) (ns : List Int), vs = [.ref l] ∧ SqL K H l (ns.map V.int) ∧ (∀ n ∈ ns, 1 ≤ n ∧ n ≤ 1000000000) ∧ Q (.int (cntL ns)) H
def spIsAxis (K : PySem.W.Frag) : Sp := fun vs H Q _ => ∃ (t : Addr) (n p : Int), vs = [.ref t] ∧ H t = some (.tup [.int n, .int p]) ∧ 1 ≤ n ∧ n ≤ 1000000000 ∧ Q (.bl true) H
def spKeptAxes : Sp := fun vs H Q _ => ∃ (l : Addr) (ax : Ax), vs = [.ref l] ∧ AxAt H l ax ∧ AOk ax ∧ ∀ H' p, Same H H' → H p = none → AxAt H' p (kept ax) → Q (.ref p) H'
def spSizes (K : PySem.W.Frag) : Sp := fun vs H Q _ => ∃ (v : Addr) (room first : Int) (ax : Ax), vs = [.ref v] ∧ ViewAt K H v room first ax ∧ ∀ H' p, Same H H' → H p = none → H' p = some (.lst ((ax.map (·.1)).map V.int)) → Q (.ref p) H'
def spCount (K : PySem.W.Frag) : Sp := fun vs H Q _ => ∃ (v : Addr) (room first : Int) (ax : Ax), vs = [.ref v] ∧ ViewAt K H v room first ax ∧ ∀ H', Same H H' → Q (.int (cnt ax)) H'
/-- a view while it is made: the three fields, the axes' bounds -/
def HalfAt (K : PySem.W.Frag) (H : Hp) (v dx : Addr) (room first : Int) (ax : Ax) : Prop := AOk ax ∧ ∃ l, H v = some (.ins (ga K "View") dx (vf room first l)) ∧ AxAt H l ax
def spLeast (K : PySem.W.Frag) (g : Ax → Int) : Sp := fun vs H Q _ => ∃ (v dx : Addr) (room first : Int) (ax : Ax), vs = [.ref v] ∧ HalfAt K H v dx room first ax ∧ ∀ H', Same H H' → Q (.int (first + g ax)) H'
def spViewInit (K : PySem.W.Frag) : Sp := fun vs H Q _ => ∃ (v dx l : Addr) (room first : Int) (ax : Ax), vs = [.ref v, .int room, .int first, .ref l] ∧ H v = some (.ins (ga K "View") dx []) ∧ AxAt H l ax ∧ 1 ≤ room ∧ room ≤ 1000000000000000000 ∧ VOk room first ax ∧
  ∀ H', (∀ b o, b ≠ v → H b = some o → H' b = some o) → ViewAt K H' v room first (kept ax) → Q .non H'
def spCells (K : PySem.W.Frag) : Sp := fun vs H Q E => ∃ (v : Addr) (room first : Int) (ax : Ax), vs = [.ref v] ∧ ViewAt K H v room first ax ∧
  ((cnt ax ≤ 4096 ∧ ∀ H' p, Same H H' → H p = none → H' p = some (.lst ((cellsF first ax).map V.int)) → Q (.ref p) H') ∨ (4096 < cnt ax ∧ ER K E H .many (cnt ax)))
def spTmInit (K : PySem.W.Frag) : Sp := fun vs H Q _ => ∃ (a : Addr) (n : Int), vs = [.ref a, .int n] ∧ H a = some (exo a (ga K "TooMany") none) ∧
  ∀ dx, H dx = none → dx ≠ a → Q .non (upd (upd H dx (exd dx [("number", .int n)])) a (exo a (ga K "TooMany") (some dx)))
def spStoreInit (K : PySem.W.Frag) : Sp := fun vs H Q _ => ∃ (s dx l : Addr) (vals : List Int), vs = [.ref s, .ref l] ∧ H s = some (.ins (ga K "Store") dx []) ∧ H l = some (.lst (vals.map V.int)) ∧ 0 < vals.length ∧ vals.length ≤ 4096 ∧
  ∀ H' h, (∀ b o, b ≠ s → H b = some o → H' b = some o) → H h = none → H' s = some (.ins (ga K "Store") dx (putF "held" (.ref h) [])) → H' h = some (.lst (vals.map V.int)) → Q .non H'
def spNeed (K : PySem.W.Frag) : Sp := fun vs H Q E => ∃ (s h v : Addr) (vals : List Int) (room first : Int) (ax : Ax), vs = [.ref s, .ref v] ∧ StoreAt K H s h vals ∧ ViewAt K H v room first ax ∧
  ((room = (vals.length : Int) ∧ Q .non H) ∨ (room ≠ (vals.length : Int) ∧ ER K E H .view 0))
def spAll (K : PySem.W.Frag) : Sp := fun vs H Q _ => ∃ (s h : Addr) (vals : List Int), vs = [.ref s] ∧ StoreAt K H s h vals ∧ ∀ H' p, Same H H' → H p = none → H' p = some (.lst (vals.map V.int)) → Q (.ref p) H'
def spRead (K : PySem.W.Frag) : Sp := fun vs H Q E => ∃ (s h v : Addr) (vals : List Int) (room first : Int) (ax : Ax), vs = [.ref s, .ref v] ∧ StoreAt K H s h vals ∧ ViewAt K H v room first ax ∧
  ((room = (vals.length : Int) ∧ cnt ax ≤ 4096 ∧ ∀ H' p, Same H H' → H p = none → H' p = some (.lst ((readV vals (cellsF first ax)).map V.int)) → Q (.ref p) H') ∨
   (room = (vals.length : Int) ∧ 4096 < cnt ax ∧ ER K E H .many (cnt ax)) ∨ (room ≠ (vals.length : Int) ∧ ER K E H .view 0))
def spPut (K : PySem.W.Frag) : Sp := fun vs H Q _ => ∃ (s h v l : Addr) (vals ns : List Int) (room first : Int) (ax : Ax), vs = [.ref s, .ref v, .ref l] ∧ StoreAt K H s h vals ∧ ViewAt K H v room first ax ∧ H l = some (.lst (ns.map V.int)) ∧ l ≠ h ∧
  room = (vals.length : Int) ∧ cnt ax ≤ 4096 ∧ (ns.length : Int) = cnt ax ∧ ∀ H', But h H H' → H' h = some (.lst ((writeV vals (cellsF first ax) ns).map V.int)) → Q .non H'
def spFill (K : PySem.W.Frag) : Sp := fun vs H Q E => ∃ (s h v : Addr) (x : Int) (vals : List Int) (room first : Int) (ax : Ax), vs = [.ref s, .ref v, .int x] ∧ StoreAt K H s h vals ∧ ViewAt K H v room first ax ∧
  ((room = (vals.length : Int) ∧ cnt ax ≤ 4096 ∧ ∀ H', But h H H' → H' h = some (.lst ((fillV vals (cellsF first ax) x).map V.int)) → Q .non H') ∨
   (room = (vals.length : Int) ∧ 4096 < cnt ax ∧ ER K E H .many (cnt ax)) ∨ (room ≠ (vals.length : Int) ∧ ER K E H .view 0))
def spCopied (K : PySem.W.Frag) : Sp := fun vs H Q E => ∃ (s h v u : Addr) (vals : List Int) (room f1 f2 : Int) (ax bx : Ax), vs = [.ref s, .ref v, .ref u] ∧ StoreAt K H s h vals ∧ ViewAt K H v room f1 ax ∧ ViewAt K H u room f2 bx ∧ cnt ax = cnt bx ∧
  ((room = (vals.length : Int) ∧ cnt bx ≤ 4096 ∧ ∀ H', But h H H' → H' h = some (.lst ((writeV vals (cellsF f1 ax) (readV vals (cellsF f2 bx))).map V.int)) → Q .non H') ∨
   (room = (vals.length : Int) ∧ 4096 < cnt bx ∧ ER K E H .many (cnt bx)) ∨ (room ≠ (vals.length : Int) ∧ ER K E H .view 0))
def spNeedPair (K : PySem.W.Frag) : Sp := fun vs H Q E => ∃ (a b : Addr) (r1 r2 g1 g2 : Int) (ax bx : Ax), vs = [.ref a, .ref b] ∧ ViewAt K H a r1 g1 ax ∧ ViewAt K H b r2 g2 bx ∧
  ((r1 = r2 ∧ cnt ax = cnt bx ∧ ∀ H', Same H H' → Q .non H') ∨ (r1 ≠ r2 ∧ ER K E H .pair 0) ∨ (r1 = r2 ∧ cnt ax ≠ cnt bx ∧ ER K E H .count 0))
def spFillInit (K : PySem.W.Frag) : Sp := fun vs H Q _ => ∃ (x dx a : Addr) (n : Int), vs = [.ref x, .ref a, .int n] ∧ H x = some (.ins (ga K "Fill") dx []) ∧ Q .non (upd H x (.ins (ga K "Fill") dx (f2 "to" "value" (.ref a) (.int n))))
/-- the __init__ of Copy, Swap, Raise -/
def spInit2 (K : PySem.W.Frag) (c f g : Str) : Sp := fun vs H Q E => ∃ (x dx a b : Addr) (r1 r2 g1 g2 : Int) (ax bx : Ax), vs = [.ref x, .ref a, .ref b] ∧ H x = some (.ins (ga K c) dx []) ∧ ViewAt K H a r1 g1 ax ∧ ViewAt K H b r2 g2 bx ∧
  ((r1 = r2 ∧ cnt ax = cnt bx ∧ ∀ H', Same H H' → Q .non (upd H' x (.ins (ga K c) dx (f2 f g (.ref a) (.ref b))))) ∨ (r1 ≠ r2 ∧ ER K E H .pair 0) ∨ (r1 = r2 ∧ cnt ax ≠ cnt bx ∧ ER K E H .count 0))
/-- writes, reads: a new list of some of the fields -/
def spTell (K : PySem.W.Frag) (c f g : Str) (sel : V → V → List V) : Sp := fun vs H Q _ => ∃ (x dx : Addr) (u v : V), vs = [.ref x] ∧ H x = some (.ins (ga K c) dx (f2 f g u v)) ∧ ∀ p, H p = none → Q (.ref p) (upd H p (.lst (sel u v)))
def spTell0 : Sp := fun vs H Q _ => ∃ x : Addr, vs = [.ref x] ∧ ∀ p, H p = none → Q (.ref p) (upd H p (.lst []))
def spRun0 : Sp := fun vs H Q _ => ∃ x y : V, vs = [x, y] ∧ Q .non H
/-- the statement of a way at st -/
def wayC : Nat → Str
  | 0 => "Statement"
  | 1 => "Fill"
  | 2 => "Copy"
  | 3 => "Swap"
  | _ => "Raise"
def wayF (way : Nat) (a b : Addr) (x : Int) : List (Str × V) := match way with
  | 0 => []
  | 1 => f2 "to" "value" (.ref a) (.int x)
  | 2 => f2 "to" "source" (.ref a) (.ref b)
  | 3 => f2 "one" "other" (.ref a) (.ref b)
  | _ => f2 "to" "source" (.ref a) (.ref b)
def StAt (K : PySem.W.Frag) (H : Hp) (st : Addr) (way : Nat) (a b : Addr) (x : Int) : Prop := ∃ dx, H st = some (.ins (ga K (wayC way)) dx (wayF way a b x))
theorem StAt.mono {K : PySem.W.Frag} {H H' : Hp} {st a b : Addr} {way : Nat} {x : Int} (s : Same H H') (h : StAt K H st way a b x) : StAt K H' st way a b x := let ⟨dx, e⟩ := h; ⟨dx, s _ _ e⟩
def spRun (K : PySem.W.Frag) (way : Nat) : Sp := fun vs H Q E => ∃ (st s h a b : Addr) (x : Int) (vals : List Int) (room g1 g2 : Int) (ax bx : Ax), vs = [.ref st, .ref s] ∧ StAt K H st way a b x ∧ StoreAt K H s h vals ∧ ViewAt K H a room g1 ax ∧ ViewAt K H b room g2 bx ∧ cnt ax = cnt bx ∧
  ((room = (vals.length : Int) ∧ cnt ax ≤ 4096 ∧ ∀ H', But h H H' → H' h = some (.lst ((dueV way vals (cellsF g1 ax) (cellsF g2 bx) x).map V.int)) → Q .non H') ∨
   (1 ≤ way ∧ room = (vals.length : Int) ∧ 4096 < cnt ax ∧ ER K E H .many (cnt ax)) ∨ (1 ≤ way ∧ room ≠ (vals.length : Int) ∧ ER K E H .view 0))
def spMade (K : PySem.W.Frag) : Sp := fun vs H Q E => ∃ (way : Nat) (a b : Addr) (x : Int) (r1 r2 g1 g2 : Int) (ax bx : Ax), vs = [.int (way : Int), .ref a, .ref b, .int x] ∧ way ≤ 4 ∧ ViewAt K H a r1 g1 ax ∧ ViewAt K H b r2 g2 bx ∧
  ((r1 = r2 ∧ cnt ax = cnt bx ∧ ∀ H' st, Same H H' → H st = none → StAt K H' st way a b x → Q (.ref st) H') ∨ (2 ≤ way ∧ r1 ≠ r2 ∧ ER K E H .pair 0) ∨ (2 ≤ way ∧ r1 = r2 ∧ cnt ax ≠ cnt bx ∧ ER K E H .count 0))
end K81
/-! The small defs, views. -/
namespace K81
open PySem PySem.Spec PyProof.Rows L2 He
section
variable {P : Program} {w : World} {K : PySem.W.Frag} {mg : Str → Option Value} {base : Heap}
theorem sc_isWhole : FnScope ["thing"] ["thing"] (defScope s_isWhole) := ⟨rfl, rfl, rfl, by decide +kernel, rfl, by decide +kernel, by decide +kernel⟩
theorem whole_by {st : Stmt} {x q : Str} {a : Addr} (T : Txt K mg) {fd : FuncData} (hst : st = s_isWhole) (F : FnP K x q st a fd) : FnOk P w K mg base CX0 1 a fd ["thing"] spIsWhole := by
  subst hst
  refine fok0 F sc_isWhole (fun vs H Q E h => ?_) (fun cdv A outer s H vs Q E hr h => ?_)
  · obtain ⟨i, rfl, _⟩ := h
    rfl
  · obtain ⟨i, rfl, q⟩ := h
    refine ⟨_, pss_one (ps_ret (pe_and (pe_callB call_isi (by rfl) T.f_isinstance (by decide +kernel) (pa_cons (pv 0) (pa_cons (pe_bltn (v := .ty "int") (by rfl) T.f_int (by decide +kernel) rfl) pa_nil)))
      (pe_one (pe_not (pe_callB call_isi (by rfl) T.f_isinstance (by decide +kernel) (pa_cons (pv 0) (pa_cons (pe_bltn (v := .ty "bool") (by rfl) T.f_bool (by decide +kernel) rfl) pa_nil))))))), ?_⟩
    refine ⟨_, rfl, _, _, _, _, true, rfl, .ty "int", .base (.int i), kit_ty (by decide +kernel), true, rfl, iteT ?_⟩
    exact ⟨_, rfl, _, _, _, _, false, rfl, .ty "bool", .base (.int i), kit_ty (by decide +kernel), false, rfl, q⟩
theorem g_isWhole (T : Txt K mg) : Gd P w K mg base CX0 1 "is_whole" ["thing"] spIsWhole := by
  obtain ⟨fd, F⟩ := T.d_is_whole
  exact ⟨_, fd, whole_by T rfl F, T.g_is_whole, F.kp, bnd F fun _ _ _ _ _ _ us hl => match us, hl with | [_], _ => rfl⟩
theorem sc_countOf : FnScope ["sizes", "found", "size"] ["sizes"] (defScope s_countOf) := ⟨rfl, rfl, rfl, by decide +kernel, rfl, by decide +kernel, by decide +kernel⟩
theorem g_countOf (T : Txt K mg) : Gd P w K mg base CX0 1 "count_of" ["sizes"] (spCountOf K) := by
  obtain ⟨fd, F⟩ := T.d_count_of
  refine ⟨_, fd, fok0 F sc_countOf (fun vs H Q E h => ?_) (fun cdv A outer s H vs Q E hr h => ?_), T.g_count_of, F.kp, bnd F fun _ _ _ _ _ _ us hl => match us, hl with | [_], _ => rfl⟩
  · obtain ⟨l, ns, rfl, _⟩ := h
    rfl
  · obtain ⟨l, ns, rfl, hS, hn, q⟩ := h
    refine ⟨_, pss_cons (ps_set (i := 1) sc_countOf.nd rfl (.inl rfl) pe_int) (pss_cons (ps_for PassesOwn.never rfl (pi_list (pv 0)) (pg_name (i := 2) sc_countOf.nd rfl (.inl rfl))
      (pss_one (ps_set (i := 1) sc_countOf.nd rfl (.inl rfl) (pe_op op_mul (pv 1) (pv 2))))) (pss_one (ps_ret (pv 1)))), ?_⟩
    refine ⟨_, rfl, l, rfl, ⟨_, hS⟩, for_list (K := K) (a := l) (xs := ns.map V.int) (fun i σ H' => ∃ v, σ = [some (.ref l), some (.int (cntL (ns.take i))), v] ∧ H' = H) ⟨none, rfl, rfl⟩ (fun i σ H' _ ⟨_, _, e⟩ => by rw [e]; exact hS) ?_ ?_⟩
    · rintro i y σ H' hi ⟨v, rfl, rfl⟩
      obtain ⟨n, hn1, rfl⟩ := map_at hi
      have b := hn n (at_mem hn1)
      refine ⟨_, rfl, _, rfl, _, _, rfl, rfl, .inr ⟨by omega, by omega⟩, some (.int n), ?_, rfl⟩
      have e : cntL (ns.take (i + 1)) = cntL (ns.take i) * n := fold_more hn1
      rw [e]
      rfl
    · rintro σ H' ⟨v, rfl, rfl⟩
      rw [List.length_map, List.take_length]
      exact ⟨_, rfl, q⟩
theorem sc_isAxis : FnScope ["thing"] ["thing"] (defScope s_isAxis) := ⟨rfl, rfl, rfl, by decide +kernel, rfl, by decide +kernel, by decide +kernel⟩
theorem g_isAxis (T : Txt K mg) (GW : Gd P w K mg base CX0 1 "is_whole" ["thing"] spIsWhole) : Gd P w K mg base CX0 2 "is_axis" ["thing"] (spIsAxis K) := by
  obtain ⟨fd, F⟩ := T.d_is_axis
  obtain ⟨tz, hz⟩ := T.i_MOST_SIZE
  refine ⟨_, fd, fok0 F sc_isAxis (fun vs H Q E h => ?_) (fun cdv A outer s H vs Q E hr h => ?_), T.g_is_axis, F.kp, bnd F fun _ _ _ _ _ _ us hl => match us, hl with | [_], _ => rfl⟩
  · obtain ⟨t, n, p, rfl, _⟩ := h
    rfl
  · obtain ⟨t, n, p, rfl, ht, n1, n2, q⟩ := h
    refine ⟨_, pss_cons (ps_if (PW.pt (pw_or (pt_not (pt_val (pe_callB call_isi (by rfl) T.f_isinstance (by decide +kernel) (pa_cons (pv 0) (pa_cons (pe_bltn (v := .ty "tuple") (by rfl) T.f_tuple (by decide +kernel) rfl) pa_nil)))))
        (pw_or1 (pt_cmpR op_ne (pe_callB call_len_seq (by rfl) T.f_len PySem.boot_len (pa_cons (pv 0) pa_nil)) pe_int (nomark _))))) (pss_one (ps_ret pe_bl)) pss_nil)
      (pss_one (ps_ret (pe_and (pe_g GW hr pass0 (pa_cons (pe_ix ix_tup (pv 0) pe_int (fun _ _ => rfl)) pa_nil))
        (pe_and (pe_chain op_le op_le pe_int (pe_ix ix_tup (pv 0) pe_int (fun _ _ => rfl)) (pe_glob (v := .int 1000000000) (by rfl) hz ⟨_, rfl⟩))
        (pe_one (pe_g GW hr pass0 (pa_cons (pe_ix ix_tup (pv 0) pe_int (fun _ _ => rfl)) pa_nil))))))), ?_⟩
    refine ⟨_, rfl, _, _, _, _, true, rfl, .ty "tuple", .base (.tup ht), kit_ty (by decide +kernel), true, rfl, iteF ?_⟩
    refine ⟨_, rfl, t, _, rfl, .inr (sqt ht), rfl, _, rfl, iteF ?_⟩
    refine ⟨_, rfl, t, _, _, _, rfl, rfl, sqt ht, rfl, n, rfl, true, rfl, iteT ?_⟩
    refine ⟨_, rfl, t, _, _, _, rfl, rfl, sqt ht, rfl, _, _, rfl, rfl, _, rfl, ?_⟩
    rw [decide_eq_true n1]
    refine iteT ⟨_, _, rfl, rfl, _, rfl, ?_⟩
    rw [decide_eq_true n2]
    refine iteT ?_
    exact ⟨_, rfl, t, _, _, _, rfl, rfl, sqt ht, rfl, p, rfl, q⟩
end
end K81
/-! Views. -/
namespace K81
open PySem PySem.Spec PyProof.Rows L2 He
theorem Tups.put {H : Hp} {ts : List Addr} {ax : Ax} {p : Addr} {xs : List V} {o : HO} (h : Tups H ts ax) (hp : H p = some (.lst xs)) : Tups (upd H p o) ts ax := ⟨h.1, fun i t q a b => by
  have e := h.2 i t q a b
  rw [upd_ne (ne_lt hp e).symm]
  exact e⟩
theorem kept_more {ax : Ax} {i : Nat} {p : Int × Int} (h : ax[i]? = some p) : kept (ax.take (i + 1)) = kept (ax.take i) ++ [keep1 p] := by
  rw [take_more h]
  unfold kept
  rw [List.map_append]
  rfl
theorem cnt_take_le {ax : Ax} (h : ∀ p ∈ ax, 1 ≤ p.1) (k : Nat) : cnt (ax.take k) ≤ cnt ax := by
  have e : cnt ax = cnt (ax.take k) * cnt (ax.drop k) := by
    unfold cnt
    rw [← cntL_append, ← List.map_append, List.take_append_drop]
  have m1 : 1 ≤ cnt (ax.take k) := cntL_pos fun n hn => by
    obtain ⟨p, hp, rfl⟩ := List.mem_map.mp hn
    exact h p (List.mem_of_mem_take hp)
  have m2 : 1 ≤ cnt (ax.drop k) := cntL_pos fun n hn => by
    obtain ⟨p, hp, rfl⟩ := List.mem_map.mp hn
    exact h p (List.mem_of_mem_drop hp)
  rw [e]
  have : cnt (ax.take k) * 1 ≤ cnt (ax.take k) * cnt (ax.drop k) := Int.mul_le_mul_of_nonneg_left m2 (by omega)
  simpa using this
theorem stepC_more {cs : List Int} {j : Nat} {c : Int} {p : Int × Int} (h : cs[j]? = some c) : stepC (cs.take (j + 1)) p = stepC (cs.take j) p ++ spanC c p := by
  rw [take_more h]
  unfold stepC
  rw [List.flatMap_append]
  simp
section
variable {P : Program} {w : World} {K : PySem.W.Frag} {mg : Str → Option Value} {base : Heap}
theorem sc_keptAxes : FnScope ["axes", "found", "axis"] ["axes"] (defScope s_keptAxes) := ⟨rfl, rfl, rfl, by decide +kernel, rfl, by decide +kernel, by decide +kernel⟩
theorem g_keptAxes (T : Txt K mg) (GA : Gd P w K mg base CX0 2 "is_axis" ["thing"] (spIsAxis K)) : Gd P w K mg base CX0 3 "kept_axes" ["axes"] spKeptAxes := by
  obtain ⟨fd, F⟩ := T.d_kept_axes
  obtain ⟨tz, hz⟩ := T.i_MOST_AXES
  refine ⟨_, fd, fok0 F sc_keptAxes (fun vs H Q E h => ?_) (fun cdv A outer s H vs Q E hr h => ?_), T.g_kept_axes, F.kp, bnd F fun _ _ _ _ _ _ us hl => match us, hl with | [_], _ => rfl⟩
  · obtain ⟨l, ax, rfl, _⟩ := h
    rfl
  · obtain ⟨l, ax, rfl, ⟨ts, hl, ht⟩, ⟨a1, a2⟩, q⟩ := h
    refine ⟨_, pss_cons (ps_if (PW.pt (pw_or (pt_not (pt_val (pe_callB call_isi (by rfl) T.f_isinstance (by decide +kernel) (pa_cons (pv 0) (pa_cons (pe_bltn (v := .ty "list") (by rfl) T.f_list (by decide +kernel) rfl) pa_nil)))))
        (pw_or1 (pt_cmpR op_gt (pe_callB call_len_seq (by rfl) T.f_len PySem.boot_len (pa_cons (pv 0) pa_nil)) (pe_glob (v := .int 8) (by rfl) hz ⟨_, rfl⟩) (nomark _))))) pss_never pss_nil)
      (pss_cons (ps_set (i := 1) sc_keptAxes.nd rfl (.inl rfl) (pe_lst pa_nil))
      (pss_cons (ps_for PassesOwn.never rfl (pi_list (pv 0)) (pg_name (i := 2) sc_keptAxes.nd rfl (.inl rfl))
        (pss_cons (ps_if (pt_not (pt_val (pe_g GA hr pass0 (pa_cons (pv 2) pa_nil)))) pss_never pss_nil)
        (pss_one (ps_if (pt_cmpR op_eq (pe_ix ix_tup (pv 2) pe_int (fun _ _ => rfl)) pe_int (nomark _))
          (pss_one (ps_expr (pe_bm PySem.F.plainAttrs_list PySem.F.slot_list_append PySem.F.type_list_append mt_append (pv 1) (pa_cons (pe_tup (pa_cons pe_int (pa_cons pe_int pa_nil))) pa_nil))))
          (pss_one (ps_expr (pe_bm PySem.F.plainAttrs_list PySem.F.slot_list_append PySem.F.type_list_append mt_append (pv 1) (pa_cons (pv 2) pa_nil))))))))
      (pss_one (ps_ret (pv 1))))), ?_⟩
    refine ⟨_, rfl, _, _, _, _, true, rfl, .ty "list", .base (.lst hl), kit_ty (by decide +kernel), true, rfl, iteF ?_⟩
    refine ⟨_, rfl, l, _, rfl, .inl (sq hl), _, _, rfl, rfl, _, rfl, ?_⟩
    have e8 : decide ((8 : Int) < ((ts.map V.ref).length : Int)) = false := decide_eq_false (by
      rw [List.length_map, ht.1]
      omega)
    rw [e8]
    refine iteF ?_
    refine ⟨Nat.zero_le _, fun p hp => ?_⟩
    refine ⟨_, rfl, l, rfl, ⟨_, (same_new hp).seq (sq hl)⟩, for_list (K := K) (a := l) (xs := ts.map V.ref) (fun i σ H' => ∃ (v : Option V) (acc : List Addr), σ = [some (.ref l), some (.ref p), v] ∧ Same H H' ∧ H' p = some (.lst (acc.map V.ref)) ∧ Tups H' acc (kept (ax.take i)))
      ⟨none, [], rfl, same_new hp, upd_same, Tups.nil⟩ (fun i σ H' _ ⟨_, _, _, s, _⟩ => s.seq (sq hl)) ?_ ?_⟩
    · rintro i y σ H' hi ⟨v, acc, rfl, s1, hp1, ht1⟩
      obtain ⟨t, z, rfl, ht2, hz2, e⟩ := (ht.mono s1).at_ hi
      obtain ⟨z1, z2⟩ := a2 z (at_mem hz2)
      have hacc : acc.length ≤ 8 := by
        have := ht1.1
        unfold kept at this
        rw [List.length_map, List.length_take] at this
        omega
      refine ⟨_, rfl, t, z.1, z.2, rfl, e, z1, z2, true, rfl, iteF ?_⟩
      refine ⟨_, rfl, t, _, _, _, rfl, rfl, sqt e, rfl, rfl, _, rfl, ite2 (fun c => ?_) (fun c => ?_)⟩
      · have c1 : z.1 = 1 := V.int.inj (of_decide_eq_true c)
        refine ⟨_, rfl, .inl ⟨rfl, _, sq hp1⟩, (by show 2 ≤ sizeLine; decide), fun t3 h3 => ?_⟩
        have hp2 : (upd H' t3 (.tup [.int 1, .int 0])) p = some (.lst (acc.map V.ref)) := same_new h3 _ _ hp1
        refine ⟨p, _, _, rfl, rfl, hp2, smallt (m := 9) (by rw [List.length_map]; omega), ?_⟩
        refine ⟨_, acc ++ [t3], rfl, same_mut (s1.trans (same_new h3)) hp, by rw [upd_same, List.map_append]; rfl, ?_⟩
        rw [kept_more hz2]
        have k1 : keep1 z = (1, 0) := if_pos c1
        rw [k1]
        exact ((ht1.mono (same_new h3)).push (t := t3) upd_same).put hp2
      · have c1 : ¬ z.1 = 1 := fun z => c (decide_eq_true (by rw [z]))
        refine ⟨_, rfl, .inl ⟨rfl, _, sq hp1⟩, _, rfl, p, _, _, rfl, rfl, hp1, smallt (m := 9) (by rw [List.length_map]; omega), ?_⟩
        refine ⟨_, acc ++ [t], rfl, same_mut s1 hp, by rw [upd_same, List.map_append]; rfl, ?_⟩
        rw [kept_more hz2]
        have k1 : keep1 z = z := if_neg c1
        rw [k1]
        exact (ht1.push e).put hp1
    · rintro σ H' ⟨v, acc, rfl, s1, hp1, ht1⟩
      rw [List.length_map, ht.1, List.take_length] at ht1
      exact ⟨_, rfl, q H' p s1 hp ⟨acc, hp1, ht1⟩⟩
theorem sc_sizes : FnScope ["self", "size", "pace"] ["self"] (defScope sView_sizes) := ⟨rfl, rfl, rfl, by decide +kernel, rfl, by decide +kernel, by decide +kernel⟩
theorem m_sizes (T : Txt K mg) : Md P w K mg base CX0 1 "View" "sizes" ["self"] (spSizes K) := by
  obtain ⟨fd, F⟩ := T.d_View_sizes
  refine ⟨_, fd, fok0 F sc_sizes (fun vs H Q E h => ?_) (fun cdv A outer s H vs Q E hr h => ?_), T.c_View, T.m_View_sizes, bnd F fun _ _ _ _ _ _ us hl => match us, hl with | [_], _ => rfl⟩
  · obtain ⟨v, room, first, ax, rfl, _⟩ := h
    rfl
  · obtain ⟨v, room, first, ax, rfl, ⟨ok, dx, l, hv, ts, hl, ht⟩, q⟩ := h
    refine ⟨_, pss_one (ps_ret (pe_lc (own := [("size", 1), ("pace", 2)]) (g := gTup K 2 (gCons (gName 1) (gCons (gName 2) gNil))) (tt := tYes) rfl sc_sizes.nd (pi_list (pe_fld (pv 0) rfl)) (blkOk_by (N := ["self", "size", "pace"]) (sc := defScope sView_sizes) (by decide +kernel))
      (fun _ _ _ _ _ => by exact pg_tup rfl (pgs_cons (pg_name (i := 1) sc_sizes.nd rfl (.inl rfl)) (pgs_cons (pg_name (i := 2) sc_sizes.nd rfl (.inl rfl)) pgs_nil))) (fun _ _ _ _ _ => pts_nil) (fun _ _ _ _ _ => pv 1))), ?_⟩
    refine ⟨_, rfl, v, _, dx, _, _, rfl, hv, T.c_View, T.n_View_axes, vf_axes room first l, l, rfl, ⟨_, sq hl⟩, fun D hD => ?_⟩
    refine lc_list (K := K) (a := l) (xs := ts.map V.ref) (fun i H' => Same H H' ∧ H' D = some (.lst (((ax.take i).map (·.1)).map V.int))) ⟨same_new hD, upd_same⟩ (fun i H' _ ⟨s1, _⟩ => s1.seq (sq hl)) ?_ ?_
    · rintro i y H' hi ⟨s1, h1⟩
      obtain ⟨t, z, rfl, ht2, hz2, e⟩ := (ht.mono s1).at_ hi
      refine ⟨t, _, rfl, sqt e, rfl, _, _, rfl, _, _, rfl, rfl, rfl, _, rfl, _, h1, ?_, same_mut s1 hD, ?_⟩
      · have := at_lt hz2
        have b := ok.1.1
        exact smallt (m := 9) (by rw [List.length_map, List.length_map, List.length_take]; omega)
      · rw [upd_same, take_more hz2, List.map_append, List.map_append]
        rfl
    · rintro H' ⟨s1, h1⟩
      rw [List.length_map, ht.1, List.take_length] at h1
      exact q H' D s1 hD h1
theorem sc_count : FnScope ["self"] ["self"] (defScope sView_count) := ⟨rfl, rfl, rfl, by decide +kernel, rfl, by decide +kernel, by decide +kernel⟩
theorem m_count (T : Txt K mg) (GS : Md P w K mg base CX0 1 "View" "sizes" ["self"] (spSizes K)) (GC : Gd P w K mg base CX0 1 "count_of" ["sizes"] (spCountOf K)) : Md P w K mg base CX0 2 "View" "count" ["self"] (spCount K) := by
  obtain ⟨fd, F⟩ := T.d_View_count
  refine ⟨_, fd, fok0 F sc_count (fun vs H Q E h => ?_) (fun cdv A outer s H vs Q E hr h => ?_), T.c_View, T.m_View_count, bnd F fun _ _ _ _ _ _ us hl => match us, hl with | [_], _ => rfl⟩
  · obtain ⟨v, room, first, ax, rfl, _⟩ := h
    rfl
  · obtain ⟨v, room, first, ax, rfl, hV, q⟩ := h
    obtain ⟨ok, dx, l, hv, _⟩ := id hV
    refine ⟨_, pss_one (ps_ret (pe_g GC hr pass0 (pa_cons (pe_m0 (pv 0) GS hr pass0) pa_nil))), ?_⟩
    refine ⟨_, rfl, v, dx, _, rfl, hv, vf_no _ _ _ (by decide +kernel) (by decide +kernel) (by decide +kernel), v, room, first, ax, rfl, hV, fun H1 p s1 np hp => ?_⟩
    exact ⟨p, _, rfl, sq hp, fun n hn => by
      obtain ⟨z, hz, rfl⟩ := List.mem_map.mp hn
      exact ok.1.2 z hz, q H1 s1⟩
theorem sc_least : FnScope ["self", "size", "pace"] ["self"] (defScope sView_least) := ⟨rfl, rfl, rfl, by decide +kernel, rfl, by decide +kernel, by decide +kernel⟩
theorem m_least (T : Txt K mg) : Md P w K mg base CX0 1 "View" "least" ["self"] (spLeast K lowA) := by
  obtain ⟨fd, F⟩ := T.d_View_least
  refine ⟨_, fd, fok0 F sc_least (fun vs H Q E h => ?_) (fun cdv A outer s H vs Q E hr h => ?_), T.c_View, T.m_View_least, bnd F fun _ _ _ _ _ _ us hl => match us, hl with | [_], _ => rfl⟩
  · obtain ⟨v, dx, room, first, ax, rfl, _⟩ := h
    rfl
  · obtain ⟨v, dx, room, first, ax, rfl, ⟨ok, l, hv, ts, hl, ht⟩, q⟩ := h
    refine ⟨_, pss_one (ps_ret (pe_op op_add (pe_fld (pv 0) rfl) (pe_callB (cr_sum rfl) (by rfl) T.f_sum (by decide +kernel) (pa_cons (pe_lc (own := [("size", 1), ("pace", 2)]) (g := gTup K 2 (gCons (gName 1) (gCons (gName 2) gNil))) (tt := tYes) rfl sc_least.nd (pi_list (pe_fld (pv 0) rfl)) (blkOk_by (N := ["self", "size", "pace"]) (sc := defScope sView_least) (by decide +kernel))
      (fun _ _ _ _ _ => by exact pg_tup rfl (pgs_cons (pg_name (i := 1) sc_least.nd rfl (.inl rfl)) (pgs_cons (pg_name (i := 2) sc_least.nd rfl (.inl rfl)) pgs_nil))) (fun _ _ _ _ _ => pts_nil)
      (fun _ _ _ _ _ => pe_callB (call_min2 rfl) (by rfl) T.f_min (by decide +kernel) (pa_cons pe_int (pa_cons (pe_op op_mul (pv 2) (pe_op op_sub (pv 1) pe_int)) pa_nil)))) pa_nil)))), ?_⟩
    refine ⟨_, rfl, v, _, dx, _, _, rfl, hv, T.c_View, T.n_View_first, vf_first room first l, ?_⟩
    refine ⟨_, rfl, v, _, dx, _, _, rfl, hv, T.c_View, T.n_View_axes, vf_axes room first l, l, rfl, ⟨_, sq hl⟩, fun D hD => ?_⟩
    refine lc_list (K := K) (a := l) (xs := ts.map V.ref) (fun i H' => Same H H' ∧ H' D = some (.lst (((ax.take i).map fun p => mn (p.2 * (p.1 - 1))).map V.int))) ⟨same_new hD, upd_same⟩ (fun i H' _ ⟨s1, _⟩ => s1.seq (sq hl)) ?_ ?_
    · rintro i y H' hi ⟨s1, h1⟩
      obtain ⟨t, z, rfl, ht2, hz2, e⟩ := (ht.mono s1).at_ hi
      have b := ok.2 z (at_mem hz2)
      refine ⟨t, _, rfl, sqt e, rfl, _, _, rfl, _, _, rfl, rfl, rfl, _, rfl, _, rfl, _, _, rfl, rfl, _, _, rfl, rfl, .inr ⟨by omega, by omega⟩, _, _, rfl, _, h1, ?_, same_mut s1 hD, ?_⟩
      · have := at_lt hz2
        have b := ok.1
        exact smallt (m := 9) (by rw [List.length_map, List.length_map, List.length_take]; omega)
      · rw [upd_same, take_more hz2, List.map_append, List.map_append]
        rfl
    · rintro H' ⟨s1, h1⟩
      rw [List.length_map, ht.1, List.take_length] at h1
      exact ⟨D, _, rfl, sq h1, _, _, rfl, rfl, q H' s1⟩
theorem sc_greatest : FnScope ["self", "size", "pace"] ["self"] (defScope sView_greatest) := ⟨rfl, rfl, rfl, by decide +kernel, rfl, by decide +kernel, by decide +kernel⟩
theorem m_greatest (T : Txt K mg) : Md P w K mg base CX0 1 "View" "greatest" ["self"] (spLeast K highA) := by
  obtain ⟨fd, F⟩ := T.d_View_greatest
  refine ⟨_, fd, fok0 F sc_greatest (fun vs H Q E h => ?_) (fun cdv A outer s H vs Q E hr h => ?_), T.c_View, T.m_View_greatest, bnd F fun _ _ _ _ _ _ us hl => match us, hl with | [_], _ => rfl⟩
  · obtain ⟨v, dx, room, first, ax, rfl, _⟩ := h
    rfl
  · obtain ⟨v, dx, room, first, ax, rfl, ⟨ok, l, hv, ts, hl, ht⟩, q⟩ := h
    refine ⟨_, pss_one (ps_ret (pe_op op_add (pe_fld (pv 0) rfl) (pe_callB (cr_sum rfl) (by rfl) T.f_sum (by decide +kernel) (pa_cons (pe_lc (own := [("size", 1), ("pace", 2)]) (g := gTup K 2 (gCons (gName 1) (gCons (gName 2) gNil))) (tt := tYes) rfl sc_greatest.nd (pi_list (pe_fld (pv 0) rfl)) (blkOk_by (N := ["self", "size", "pace"]) (sc := defScope sView_greatest) (by decide +kernel))
      (fun _ _ _ _ _ => by exact pg_tup rfl (pgs_cons (pg_name (i := 1) sc_greatest.nd rfl (.inl rfl)) (pgs_cons (pg_name (i := 2) sc_greatest.nd rfl (.inl rfl)) pgs_nil))) (fun _ _ _ _ _ => pts_nil)
      (fun _ _ _ _ _ => pe_callB (call_max2 rfl) (by rfl) T.f_max (by decide +kernel) (pa_cons pe_int (pa_cons (pe_op op_mul (pv 2) (pe_op op_sub (pv 1) pe_int)) pa_nil)))) pa_nil)))), ?_⟩
    refine ⟨_, rfl, v, _, dx, _, _, rfl, hv, T.c_View, T.n_View_first, vf_first room first l, ?_⟩
    refine ⟨_, rfl, v, _, dx, _, _, rfl, hv, T.c_View, T.n_View_axes, vf_axes room first l, l, rfl, ⟨_, sq hl⟩, fun D hD => ?_⟩
    refine lc_list (K := K) (a := l) (xs := ts.map V.ref) (fun i H' => Same H H' ∧ H' D = some (.lst (((ax.take i).map fun p => mx (p.2 * (p.1 - 1))).map V.int))) ⟨same_new hD, upd_same⟩ (fun i H' _ ⟨s1, _⟩ => s1.seq (sq hl)) ?_ ?_
    · rintro i y H' hi ⟨s1, h1⟩
      obtain ⟨t, z, rfl, ht2, hz2, e⟩ := (ht.mono s1).at_ hi
      have b := ok.2 z (at_mem hz2)
      refine ⟨t, _, rfl, sqt e, rfl, _, _, rfl, _, _, rfl, rfl, rfl, _, rfl, _, rfl, _, _, rfl, rfl, _, _, rfl, rfl, .inr ⟨by omega, by omega⟩, _, _, rfl, _, h1, ?_, same_mut s1 hD, ?_⟩
      · have := at_lt hz2
        have b := ok.1
        exact smallt (m := 9) (by rw [List.length_map, List.length_map, List.length_take]; omega)
      · rw [upd_same, take_more hz2, List.map_append, List.map_append]
        rfl
    · rintro H' ⟨s1, h1⟩
      rw [List.length_map, ht.1, List.take_length] at h1
      exact ⟨D, _, rfl, sq h1, _, _, rfl, rfl, q H' s1⟩
end
end K81
/-! A view made, its cells. -/
namespace K81
open PySem PySem.Spec PyProof.Rows L2 He
section
variable {P : Program} {w : World} {K : PySem.W.Frag} {mg : Str → Option Value} {base : Heap}
/-- TooMany's own __init__ -/
def TmOk (P : Program) (w : World) (K : PySem.W.Frag) (mg : Str → Option Value) (base : Heap) : Prop := ∃ fd, FnOk P w K mg base CX0 1 (ma K (ga K "TooMany") "__init__") fd ["self", "number"] (spTmInit K) ∧ Binds K fd ["self", "number"] []
theorem sc_tm : FnScope ["self", "number"] ["self", "number"] (defScope sTooMany_init) := ⟨rfl, rfl, rfl, by decide +kernel, rfl, by decide +kernel, by decide +kernel⟩
theorem tm_ok (T : Txt K mg) : TmOk P w K mg base := by
  obtain ⟨fd, F⟩ := T.d_TooMany___init__
  refine ⟨fd, fok0 F sc_tm (fun vs H Q E h => ?_) (fun cdv A outer s H vs Q E hr h => ?_), bnd F fun _ _ _ _ _ _ us hl => match us, hl with | [_, _], _ => rfl⟩
  · obtain ⟨a, n, rfl, _⟩ := h
    rfl
  · obtain ⟨a, n, rfl, ha, q⟩ := h
    refine ⟨_, pss_one (ps_ost (pv 0) (pv 1)), ?_⟩
    exact ⟨_, rfl, _, rfl, a, _, rfl, T.ext.tm, T.n_TooMany_number, .inl ⟨ha, fun dx h1 h2 => q dx h1 h2⟩⟩
/-- behind TooMany(n) -/
theorem er_many {E : XK} {H : Hp} {n : Int} {a d : Addr} (hE : ER K E H .many n) (ha : H a = none) (hd : H d = none) : E (.ref (ga K "TooMany")) (some d)
    (upd (del (upd (upd (upd H a (exo a (ga K "TooMany") none)) d (exd d [("number", .int n)])) a (exo a (ga K "TooMany") (some d))) a) d (.xd [("number", .int n)])) := by
  refine hE _ _ (fun b o e => ?_) ⟨d, rfl, upd_same⟩
  have nb : b ≠ a := ne_of_none e ha
  have nd : b ≠ d := ne_of_none e hd
  rw [upd_ne nd, del_ne nb, upd_ne nb, upd_ne nd, upd_ne nb]
  exact e
theorem sc_cells : FnScope ["self", "found", "size", "pace", "longer", "cell", "at"] ["self"] (defScope sView_cells) := ⟨rfl, rfl, rfl, by decide +kernel, rfl, by decide +kernel, by decide +kernel⟩
theorem m_cells (T : Txt K mg) (TM : TmOk P w K mg base) (GC : Md P w K mg base CX0 2 "View" "count" ["self"] (spCount K)) : Md P w K mg base (L2.CX P w) 3 "View" "cells" ["self"] (spCells K) := by
  obtain ⟨fd, F⟩ := T.d_View_cells
  obtain ⟨ft, FT, bT⟩ := TM
  obtain ⟨tz, hz⟩ := T.i_MOST_views
  refine ⟨_, fd, fokX F sc_cells (fun vs H Q E h => ?_) (fun cdv A outer s H vs Q E hr h => ?_), T.c_View, T.m_View_cells, bnd F fun _ _ _ _ _ _ us hl => match us, hl with | [_], _ => rfl⟩
  · obtain ⟨v, room, first, ax, rfl, _⟩ := h
    rfl
  · obtain ⟨v, room, first, ax, rfl, hV, q⟩ := h
    obtain ⟨ok, dx, l, hv, ts, hl, ht⟩ := id hV
    refine ⟨_, pss_cons (ps_if (pt_cmpR op_gt (pe_m0 (pv 0) GC hr pass0) (pe_glob (v := .int 4096) (by rfl) hz ⟨_, rfl⟩) (nomark _))
        (pss_one (ps_raise rfl (takes_of rfl rfl rfl rfl) (pmk_oex T.ext.tm T.ext.tmI T.ext.tmT FT hr bT .nil pass0 (by rfl) T.g_TooMany (pa_cons (pe_m0 (pv 0) GC hr pass0) pa_nil)))) pss_nil)
      (pss_cons (ps_set (i := 1) sc_cells.nd rfl (.inl rfl) (pe_lst (pa_cons (pe_fld (pv 0) rfl) pa_nil)))
      (pss_cons (ps_for (passes_of rfl) rfl (pi_list (pe_fld (pv 0) rfl)) (pg_tup rfl (pgs_cons (pg_name (i := 2) sc_cells.nd rfl (.inl rfl)) (pgs_cons (pg_name (i := 3) sc_cells.nd rfl (.inr rfl)) pgs_nil)))
        (pss_cons (ps_set (i := 4) sc_cells.nd rfl (.inl rfl) (pe_lst pa_nil))
        (pss_cons (ps_for (passes_of rfl) rfl (pi_list (pv 1)) (pg_name (i := 5) sc_cells.nd rfl (.inr rfl))
          (pss_one (ps_expr (pe_bm PySem.F.plainAttrs_list PySem.F.slot_list_extend PySem.F.type_list_extend mt_extend (pv 4)
            (pa_cons (pe_lc (own := [("at", 6)]) (g := gName 6) (tt := tYes) rfl sc_cells.nd (pi_range1 (by rfl) T.f_range (pa_cons (pv 2) pa_nil)) (blkOk_by (N := ["self", "found", "size", "pace", "longer", "cell", "at"]) (sc := defScope sView_cells) (by decide +kernel))
              (fun _ _ _ _ _ => by exact pg_name (i := 6) sc_cells.nd rfl (.inl rfl)) (fun _ _ _ _ _ => pts_nil) (fun _ _ _ _ _ => pe_op op_add (pv 5) (pe_op op_mul (pv 3) (pv 6)))) pa_nil)))))
        (pss_one (ps_set (i := 1) sc_cells.nd rfl (.inl rfl) (pv 4))))))
      (pss_one (ps_ret (pv 1))))), ?_⟩
    have vno : (vf room first l).lookup ("count" : Str) = none := vf_no _ _ _ (by decide +kernel) (by decide +kernel) (by decide +kernel)
    refine ⟨_, rfl, v, dx, _, rfl, hv, vno, v, room, first, ax, rfl, hV, fun H1 s1 => ?_⟩
    refine ⟨_, _, rfl, rfl, _, rfl, ?_⟩
    rcases q with ⟨hc, q⟩ | ⟨hc, q⟩
    · rw [show decide ((4096 : Int) < cnt ax) = false from decide_eq_false (by omega)]
      refine iteF ?_
      refine ⟨_, rfl, v, _, dx, _, _, rfl, s1 _ _ hv, T.c_View, T.n_View_first, vf_first room first l, (by show 1 ≤ sizeLine; decide), fun p0 hp0 => ?_⟩
      have s2 : Same H (upd H1 p0 (.lst [.int first])) := s1.trans (same_new hp0)
      refine ⟨_, rfl, v, _, dx, _, _, rfl, s2 _ _ hv, T.c_View, T.n_View_axes, vf_axes room first l, l, rfl, ⟨_, s2.seq (sq hl)⟩, ?_⟩
      have a1 : ∀ p ∈ ax, 1 ≤ p.1 := fun p hp => (ok.1.2 p hp).1
      have lenT : ∀ i, ((cellsF first (ax.take i)).length : Int) ≤ 4096 := fun i => by
        have e : ((cellsF first (ax.take i)).length : Int) = cnt (ax.take i) := cellsF_len fun p hp => by
          have := a1 p (List.mem_of_mem_take hp)
          omega
        have := cnt_take_le a1 i
        omega
      refine for_list (K := K) (a := l) (xs := ts.map V.ref) (fun i σ H' => ∃ (v2 v3 v4 v5 : Option V) (p : Addr), σ = [some (.ref v), some (.ref p), v2, v3, v4, v5, none] ∧ Same H H' ∧ H p = none ∧ H' p = some (.lst ((cellsF first (ax.take i)).map V.int)))
        ⟨none, none, none, none, p0, rfl, s2, s1.free hp0, upd_same⟩ (fun i σ H' _ ⟨_, _, _, _, _, _, s, _⟩ => s.seq (sq hl)) ?_ ?_
      · rintro i y σ H' hi ⟨v2, v3, v4, v5, p, rfl, s3, np, hp⟩
        obtain ⟨t, ⟨n, z⟩, rfl, ht2, hz2, e⟩ := (ht.mono s3).at_ hi
        have b := ok.1.2 _ (at_mem hz2)
        refine ⟨t, _, rfl, sqt e, rfl, _, _, rfl, _, _, rfl, rfl, ?_⟩
        refine ⟨Nat.zero_le _, fun lg hlg => ?_⟩
        refine ⟨_, rfl, p, rfl, ⟨_, (same_new hlg).seq (sq hp)⟩, ?_⟩
        have nplg : p ≠ lg := ne_of_none hp hlg
        have stepL : ∀ j, ((stepC ((cellsF first (ax.take i)).take j) (n, z)).length : Int) ≤ 4096 := fun j => by
          have h1 := lenT (i + 1)
          have e1 : cellsF first (ax.take (i + 1)) = stepC (cellsF first (ax.take i)) (n, z) := fold_more hz2
          rw [e1, stepC_len] at h1
          rw [stepC_len]
          have h2 : ((cellsF first (ax.take i)).take j).length ≤ (cellsF first (ax.take i)).length := by
            rw [List.length_take]
            exact Nat.min_le_right _ _
          have h3 := Nat.mul_le_mul_right ((n, z) : Int × Int).1.toNat h2
          omega
        refine for_list (K := K) (a := p) (xs := (cellsF first (ax.take i)).map V.int) (fun j σ H'' => ∃ (v5 : Option V), σ = [some (.ref v), some (.ref p), some (.int n), some (.int z), some (.ref lg), v5, none] ∧ Same H' H'' ∧ H'' lg = some (.lst ((stepC ((cellsF first (ax.take i)).take j) (n, z)).map V.int)))
          ⟨v5, rfl, same_new hlg, upd_same⟩ (fun j σ H'' _ ⟨_, _, s, _⟩ => s.seq (sq hp)) ?_ ?_
        · rintro j y σ H4 hj ⟨v5, rfl, s4, h4⟩
          obtain ⟨c, hc2, rfl⟩ := map_at hj
          refine ⟨_, rfl, .inl ⟨rfl, _, sq h4⟩, _, rfl, n, rfl, by omega, by omega, fun D hD => ?_⟩
          refine lc_range (lo := 0) (n := n.toNat) (fun k H5 => Same H4 H5 ∧ H5 D = some (.lst ((((List.range n.toNat).take k).map fun (k : Nat) => c + z * (k : Int)).map V.int))) ⟨same_new hD, upd_same⟩ ?_ ?_
          · rintro k H5 hk ⟨s5, h5⟩
            have hkr : (List.range n.toNat)[k]? = some k := by rw [List.getElem?_range hk]
            refine ⟨rfl, _, rfl, _, rfl, _, rfl, _, _, rfl, rfl, .inr ⟨by omega, by omega⟩, _, _, rfl, rfl, _, h5, ?_, same_mut s5 hD, ?_⟩
            · have h6 := stepL (j + 1)
              rw [stepC_more hc2, List.length_append, spanC_len] at h6
              exact smallt (m := 4097) (by rw [List.length_map, List.length_map, List.length_take, List.length_range]; show min k n.toNat < 4097; have h7 : (n.toNat : Int) ≤ 4096 := by { have h8 : ((n, z) : Int × Int).1.toNat = n.toNat := rfl; omega }; omega)
            · rw [upd_same, take_more hkr, List.map_append, List.map_append]
              simp
          · rintro H5 ⟨s5, h5⟩
            have er : (List.range n.toNat).take n.toNat = List.range n.toNat := List.take_of_length_le (by rw [List.length_range]; exact Nat.le_refl _)
            rw [er] at h5
            refine ⟨lg, D, _, _, rfl, rfl, s5 _ _ h4, h5, ?_, some (.int c), rfl, same_mut (s4.trans s5) hlg, ?_⟩
            · have h6 := stepL (j + 1)
              rw [stepC_more hc2, List.length_append, spanC_len] at h6
              refine small (m := 4096) ?_
              rw [List.length_map, List.length_map, List.length_map, List.length_range]
              have h8 : ((n, z) : Int × Int).1.toNat = n.toNat := rfl
              omega
            · rw [upd_same, stepC_more hc2, List.map_append]
              rfl
        · rintro σ H4 ⟨v5, rfl, s4, h4⟩
          rw [List.length_map, List.take_length] at h4
          refine ⟨_, rfl, some (.int n), some (.int z), some (.ref lg), v5, lg, rfl, s3.trans s4, s3.free hlg, ?_⟩
          have e1 : cellsF first (ax.take (i + 1)) = stepC (cellsF first (ax.take i)) (n, z) := fold_more hz2
          rw [e1]
          exact h4
      · rintro σ H' ⟨v2, v3, v4, v5, p, rfl, s3, np, hp⟩
        rw [List.length_map, ht.1, List.take_length] at hp
        exact ⟨_, rfl, q H' p s3 np hp⟩
    · rw [show decide ((4096 : Int) < cnt ax) = true from decide_eq_true hc]
      refine iteT ?_
      refine ⟨_, rfl, v, dx, _, rfl, s1 _ _ hv, vno, v, room, first, ax, rfl, hV.mono s1, fun H2 s2 => ⟨(by show 1 ≤ 1000; decide), fun a na => ?_⟩⟩
      refine ⟨a, cnt ax, rfl, upd_same, fun d hd nd => ⟨rfl, d, _, upd_same, by rw [upd_ne nd, upd_same], ?_, ?_⟩⟩
      · rw [upd_ne nd] at hd
        exact hd
      · rw [upd_ne nd] at hd
        exact er_many (q.mono (s1.trans s2)) na hd
end
end K81
/-! A view is made; pairs. -/
namespace K81
open PySem PySem.Spec PyProof.Rows L2 He
theorem AxAt.ins {H : Hp} {v l C dx : Addr} {fs : List (Str × V)} {o : HO} {ax : Ax} (hv : H v = some (.ins C dx fs)) (h : AxAt H l ax) : AxAt (upd H v o) l ax := by
  obtain ⟨ts, h1, h2, h3⟩ := h
  refine ⟨ts, by rw [upd_ne (ne_li h1 hv)]; exact h1, h2, fun i t p a b => ?_⟩
  have e := h3 i t p a b
  rw [upd_ne (ne_ti e hv)]
  exact e
theorem len1 {f : Str} {x : V} : (putF f x []).length < 1000 := Nat.lt_of_le_of_lt (length_putF _ _ _) (by decide)
theorem len2 {f g : Str} {x y : V} : (putF g y (putF f x [])).length < 1000 := Nat.lt_of_le_of_lt (Nat.le_trans (length_putF _ _ _) (Nat.succ_le_succ (length_putF _ _ _))) (by decide)
theorem AOk.kept {ax : Ax} (h : AOk ax) : AOk (kept ax) := by
  refine ⟨by unfold K81.kept; rw [List.length_map]; exact h.1, fun p hp => ?_⟩
  unfold K81.kept at hp
  obtain ⟨q, hq, rfl⟩ := List.mem_map.mp hp
  rw [keep1_fst]
  exact h.2 q hq
section
variable {P : Program} {w : World} {K : PySem.W.Frag} {mg : Str → Option Value} {base : Heap}
theorem sc_vinit : FnScope ["self", "room", "first", "axes"] ["self", "room", "first", "axes"] (defScope sView_init) := ⟨rfl, rfl, rfl, by decide +kernel, rfl, by decide +kernel, by decide +kernel⟩
theorem k_view (T : Txt K mg) (GW : Gd P w K mg base CX0 1 "is_whole" ["thing"] spIsWhole) (GK : Gd P w K mg base CX0 3 "kept_axes" ["axes"] spKeptAxes) (GL : Md P w K mg base CX0 1 "View" "least" ["self"] (spLeast K lowA))
    (GG : Md P w K mg base CX0 1 "View" "greatest" ["self"] (spLeast K highA)) : Kl P w K mg base CX0 4 "View" ["self", "room", "first", "axes"] (spViewInit K) := by
  obtain ⟨fd, F⟩ := T.d_View___init__
  obtain ⟨tz, hz⟩ := T.i_MOST_ROOM
  refine ⟨_, fd, fok0 F sc_vinit (fun vs H Q E h => ?_) (fun cdv A outer s H vs Q E hr h => ?_), T.k_View, T.g_View, bnd F fun _ _ _ _ _ _ us hl => match us, hl with | [_, _, _, _], _ => rfl⟩
  · obtain ⟨v, dx, l, room, first, ax, rfl, _⟩ := h
    rfl
  · obtain ⟨v, dx, l, room, first, ax, rfl, hv, hl, r1, r2, ok, q⟩ := h
    have hr1 : Room 1 _ := hr.mono (by decide)
    refine ⟨_, pss_cons (ps_if (PW.pt (pw_or (pt_not (pt_val (pe_g GW hr1 pass0 (pa_cons (pv 1) pa_nil)))) (pw_or1 (pt_not (pt_chain op_le op_le pe_int (pv 1) (pe_glob (v := .int 1000000000000000000) (by rfl) hz ⟨_, rfl⟩)))))) pss_never pss_nil)
      (pss_cons (ps_if (pt_not (pt_val (pe_g GW hr1 pass0 (pa_cons (pv 2) pa_nil)))) pss_never pss_nil)
      (pss_cons (ps_fld (pv 0) (pv 1) rfl)
      (pss_cons (ps_fld (pv 0) (pv 2) rfl)
      (pss_cons (ps_fld (pv 0) (pe_g GK hr pass0 (pa_cons (pv 3) pa_nil)) rfl)
      (pss_one (ps_if (PW.pt (pw_or (pt_cmpR op_lt (pe_m0 (pv 0) GL hr1 pass0) pe_int (nomark _)) (pw_or1 (pt_cmpR op_ge (pe_m0 (pv 0) GG hr1 pass0) (pv 1) (nomark _))))) pss_never pss_nil)))))), ?_⟩
    refine ⟨_, rfl, room, rfl, true, rfl, iteF ?_⟩
    refine ⟨_, rfl, _, _, rfl, rfl, _, rfl, ?_⟩
    rw [decide_eq_true r1]
    refine iteT ⟨_, _, rfl, rfl, _, rfl, ?_⟩
    rw [decide_eq_true r2]
    refine iteF ?_
    refine ⟨_, rfl, first, rfl, true, rfl, iteF ?_⟩
    refine ⟨_, rfl, _, rfl, v, _, dx, _, rfl, hv, T.c_View, T.n_View_room, (by decide), ?_⟩
    refine ⟨_, rfl, _, rfl, v, _, dx, _, rfl, upd_same, T.c_View, T.n_View_first, len1, ?_⟩
    rw [upd_upd]
    refine ⟨_, rfl, l, ax, rfl, hl.ins hv, ok.1, fun H1 p s1 np hp => ?_⟩
    have hv1 : H1 v = some (.ins (ga K "View") dx (putF "first" (.int first) (putF "room" (.int room) []))) := s1 _ _ upd_same
    refine ⟨_, rfl, v, _, dx, _, rfl, hv1, T.c_View, T.n_View_axes, len2, ?_⟩
    have half : HalfAt K (upd H1 v (.ins (ga K "View") dx (vf room first p))) v dx room first (kept ax) := ⟨ok.1.kept, p, upd_same, hp.ins hv1⟩
    have vno1 : (vf room first p).lookup ("least" : Str) = none := vf_no _ _ _ (by decide +kernel) (by decide +kernel) (by decide +kernel)
    have vno2 : (vf room first p).lookup ("greatest" : Str) = none := vf_no _ _ _ (by decide +kernel) (by decide +kernel) (by decide +kernel)
    refine ⟨_, rfl, v, dx, _, rfl, upd_same, vno1, v, dx, room, first, kept ax, rfl, half, fun H2 s2 => ?_⟩
    refine ⟨_, _, rfl, rfl, _, rfl, ?_⟩
    have o2 : 0 ≤ first + lowA (kept ax) := by rw [low_kept]; exact ok.2.1
    have o3 : first + highA (kept ax) < room := by rw [high_kept]; exact ok.2.2
    rw [show decide (first + lowA (kept ax) < 0) = false from decide_eq_false (by omega)]
    refine iteF ?_
    have half2 : HalfAt K H2 v dx room first (kept ax) := by
      obtain ⟨a, l2, b, c⟩ := half
      exact ⟨a, l2, s2 _ _ b, c.mono s2⟩
    refine ⟨_, rfl, v, dx, _, rfl, s2 _ _ upd_same, vno2, v, dx, room, first, kept ax, rfl, half2, fun H3 s3 => ?_⟩
    refine ⟨_, rfl, _, _, rfl, rfl, _, rfl, ?_⟩
    rw [show decide (room ≤ first + highA (kept ax)) = false from decide_eq_false (by omega)]
    refine iteF ?_
    obtain ⟨a, l2, b, c⟩ := half2
    refine q H3 (fun x o nx e => s3 _ _ (s2 _ _ ?_)) ⟨⟨a, o2, o3⟩, dx, l2, s3 _ _ b, c.mono s3⟩
    rw [upd_ne nx]
    refine s1 _ _ ?_
    rw [upd_ne nx]
    exact e
theorem raise_own {X : Cx} {x m : Str} {j : Nat} {p p2 pos : Pos} (e : PySem.W.excIn X.K (ga X.K x) veBase "ValueError.__new__" = true ∧ PySem.W.keepIn X.K (.ref (ga X.K x)) = true ∧ PySem.W.subIn X.K (.ref (ga X.K x)) (.type "BaseException") = some true ∧ PySem.W.typeIn X.K (.ref (ga X.K x)) = some (.type "type"))
    (g : X.mg x = some (.ref (ga X.K x))) (hg : Gl X x) (hdb : (x == ("__debug__" : Str)) = false := by decide) : PMk X (.Call (.Name x p) [.Constant (.str m) j p2] [] pos) (fun _ H Q => Q (.ref (ga X.K x)) none H) :=
  pmk_own PySem.F.excBase_ValueError e.1 g e.2.1 (raises_own e.2.2.1 e.2.2.2) hg hdb
theorem sc_needPair : FnScope ["one", "other"] ["one", "other"] (defScope s_needPair) := ⟨rfl, rfl, rfl, by decide +kernel, rfl, by decide +kernel, by decide +kernel⟩
theorem g_needPair (T : Txt K mg) (GC : Md P w K mg base CX0 2 "View" "count" ["self"] (spCount K)) : Gd P w K mg base (L2.CX P w) 3 "need_pair" ["one", "other"] (spNeedPair K) := by
  obtain ⟨fd, F⟩ := T.d_need_pair
  refine ⟨_, fd, fokX F sc_needPair (fun vs H Q E h => ?_) (fun cdv A outer s H vs Q E hr h => ?_), T.g_need_pair, F.kp, bnd F fun _ _ _ _ _ _ us hl => match us, hl with | [_, _], _ => rfl⟩
  · obtain ⟨a, b, r1, r2, g1, g2, ax, bx, rfl, _⟩ := h
    rfl
  · obtain ⟨a, b, r1, r2, g1, g2, ax, bx, rfl, hA, hB, q⟩ := h
    obtain ⟨_, dA, lA, vA, _⟩ := id hA
    obtain ⟨_, dB, lB, vB, _⟩ := id hB
    refine ⟨_, pss_cons (ps_if (pt_cmpR op_ne (pe_fld (pv 0) rfl) (pe_fld (pv 1) rfl) (nomark _)) (pss_one (ps_raise rfl (takes_of rfl rfl rfl rfl) (raise_own T.e_NoPair T.g_NoPair (by exact rfl)))) pss_nil)
      (pss_one (ps_if (pt_cmpR op_ne (pe_m0 (pv 0) GC hr pass0) (pe_m0 (pv 1) GC hr pass0) (nomark _)) (pss_one (ps_raise rfl (takes_of rfl rfl rfl rfl) (raise_own T.e_NoCount T.g_NoCount (by exact rfl)))) pss_nil)), ?_⟩
    refine ⟨_, rfl, a, _, dA, _, _, rfl, vA, T.c_View, T.n_View_room, vf_room _ _ _, _, rfl, b, _, dB, _, _, rfl, vB, T.c_View, T.n_View_room, vf_room _ _ _, rfl, _, rfl, ?_⟩
    have noA : (vf r1 g1 lA).lookup ("count" : Str) = none := vf_no _ _ _ (by decide +kernel) (by decide +kernel) (by decide +kernel)
    have noB : (vf r2 g2 lB).lookup ("count" : Str) = none := vf_no _ _ _ (by decide +kernel) (by decide +kernel) (by decide +kernel)
    have go : r1 = r2 → (∀ H2, Same H H2 → if (!decide (V.int (cnt ax) = V.int (cnt bx))) = true then E (.ref (ga K "NoCount")) none H2 else Q .non H2) → ∀ t, t = (tOp rNe (tMeth (ga K "View") "count" (spCount K) [] E0 (tVar 0) tNil) (tMeth (ga K "View") "count" (spCount K) [] E0 (tVar 1) tNil) : TE) → t (start ["one", "other"] [.ref a, .ref b]) H (fun x H' => ∃ k, x = .bl k ∧ (if k = true then E (.ref (ga K "NoCount")) none H' else Q .non H')) := by
      intro er hq t et
      subst et
      refine ⟨_, rfl, a, dA, _, rfl, vA, noA, a, r1, g1, ax, rfl, hA, fun H1 s1 => ?_⟩
      refine ⟨_, rfl, b, dB, _, rfl, s1 _ _ vB, noB, b, r2, g2, bx, rfl, hB.mono s1, fun H2 s2 => ⟨rfl, _, rfl, hq H2 (s1.trans s2)⟩⟩
    rcases q with ⟨er, ec, q⟩ | ⟨er, q⟩ | ⟨er, ec, q⟩
    · rw [show (!decide (V.int r1 = V.int r2)) = false by rw [er]; simp]
      refine iteF (go er (fun H2 s2 => ?_) _ rfl)
      rw [show (!decide (V.int (cnt ax) = V.int (cnt bx))) = false by rw [ec]; simp]
      exact iteF (q H2 s2)
    · rw [show (!decide (V.int r1 = V.int r2)) = true by rw [decide_eq_false (fun z => er (V.int.inj z))]; rfl]
      exact iteT (q H none (Same.refl H) rfl)
    · rw [show (!decide (V.int r1 = V.int r2)) = false by rw [er]; simp]
      refine iteF (go er (fun H2 s2 => ?_) _ rfl)
      rw [show (!decide (V.int (cnt ax) = V.int (cnt bx))) = true by rw [decide_eq_false (fun z => ec (V.int.inj z))]; rfl]
      exact iteT (q H2 none s2 rfl)
end
end K81
/-! Stores. -/
namespace K81
open PySem PySem.Spec PyProof.Rows L2 He
theorem ixN_at {n : Nat} {c : Int} (h0 : 0 ≤ c) (h1 : c < (n : Int)) : ixN n c = some c.toNat := by
  unfold ixN
  rw [if_pos h0, if_pos h1]
theorem at_cell {vals : List Int} {c : Int} (h0 : 0 ≤ c) (h1 : c < (vals.length : Int)) : atI (vals.map V.int) c = some (.int (vals.getD c.toNat 0)) := by
  have hlt : c.toNat < vals.length := by omega
  unfold atI
  rw [List.length_map, ixN_at h0 h1, Option.bind_some, List.getElem?_map, List.getElem?_eq_getElem hlt, List.getD_eq_getElem?_getD, List.getElem?_eq_getElem hlt]
  rfl
theorem map_set' (vals : List Int) (j : Nat) (n : Int) : (vals.map V.int).set j (.int n) = (vals.set j n).map V.int := by rw [List.map_set]
theorem zip_at {α β : Type} {xs : List α} {ys : List β} {i : Nat} {x : α} {y : β} (h1 : xs[i]? = some x) (h2 : ys[i]? = some y) : (xs.zip ys)[i]? = some (x, y) := by
  rw [List.getElem?_zip_eq_some]
  exact ⟨h1, h2⟩
section
variable {P : Program} {w : World} {K : PySem.W.Frag} {mg : Str → Option Value} {base : Heap}
theorem sc_sinit : FnScope ["self", "values"] ["self", "values"] (defScope sStore_init) := ⟨rfl, rfl, rfl, by decide +kernel, rfl, by decide +kernel, by decide +kernel⟩
theorem k_store (T : Txt K mg) : Kl P w K mg base CX0 1 "Store" ["self", "values"] (spStoreInit K) := by
  obtain ⟨fd, F⟩ := T.d_Store___init__
  obtain ⟨tz, hz⟩ := T.i_MOST_stores
  refine ⟨_, fd, fok0 F sc_sinit (fun vs H Q E h => ?_) (fun cdv A outer s H vs Q E hr h => ?_), T.k_Store, T.g_Store, bnd F fun _ _ _ _ _ _ us hl => match us, hl with | [_, _], _ => rfl⟩
  · obtain ⟨s, dx, l, vals, rfl, _⟩ := h
    rfl
  · obtain ⟨st, dx, l, vals, rfl, hs, hl, h0, h1, q⟩ := h
    refine ⟨_, pss_cons (ps_if (pt_cmpR op_eq (pe_callB call_len_seq (by rfl) T.f_len PySem.boot_len (pa_cons (pv 1) pa_nil)) pe_int (nomark _)) pss_never pss_nil)
      (pss_cons (ps_if (pt_cmpR op_gt (pe_callB call_len_seq (by rfl) T.f_len PySem.boot_len (pa_cons (pv 1) pa_nil)) (pe_glob (v := .int 4096) (by rfl) hz ⟨_, rfl⟩) (nomark _)) pss_never pss_nil)
      (pss_one (ps_fld (pv 0) (pe_callTy call_list_of (by rfl) T.f_list (by decide +kernel) (pa_cons (pv 1) pa_nil)) rfl))), ?_⟩
    refine ⟨_, rfl, l, _, rfl, .inl (sq hl), rfl, _, rfl, ?_⟩
    rw [show decide (V.int (((vals.map V.int).length : Nat) : Int) = V.int 0) = false from decide_eq_false (fun z => by
      have := V.int.inj z
      rw [List.length_map] at this
      omega)]
    refine iteF ?_
    refine ⟨_, rfl, l, _, rfl, .inl (sq hl), _, _, rfl, rfl, _, rfl, ?_⟩
    rw [show decide ((4096 : Int) < (((vals.map V.int).length : Nat) : Int)) = false from decide_eq_false (by rw [List.length_map]; omega)]
    refine iteF ?_
    refine ⟨_, rfl, l, _, rfl, .inl (sq hl), fun h2 nh => ?_⟩
    have nsh : st ≠ h2 := ne_of_none hs nh
    refine ⟨_, rfl, st, _, dx, _, rfl, same_new nh _ _ hs, T.c_Store, T.n_Store_held, (by decide), ?_⟩
    refine q _ h2 (fun b o nb e => ?_) nh upd_same ?_
    · rw [upd_ne nb]
      exact same_new nh _ _ e
    · rw [upd_ne nsh.symm, upd_same]
theorem sc_need : FnScope ["self", "view"] ["self", "view"] (defScope sStore_need) := ⟨rfl, rfl, rfl, by decide +kernel, rfl, by decide +kernel, by decide +kernel⟩
theorem m_need (T : Txt K mg) : Md P w K mg base (L2.CX P w) 1 "Store" "need" ["self", "view"] (spNeed K) := by
  obtain ⟨fd, F⟩ := T.d_Store_need
  refine ⟨_, fd, fokX F sc_need (fun vs H Q E h => ?_) (fun cdv A outer s H vs Q E hr h => ?_), T.c_Store, T.m_Store_need, bnd F fun _ _ _ _ _ _ us hl => match us, hl with | [_, _], _ => rfl⟩
  · obtain ⟨s, h, v, vals, room, first, ax, rfl, _⟩ := h
    rfl
  · obtain ⟨st, h, v, vals, room, first, ax, rfl, ⟨_, dx, hs, hh⟩, ⟨_, dv, l, hv, _⟩, q⟩ := h
    refine ⟨_, pss_one (ps_if (pt_cmpR op_ne (pe_fld (pv 1) rfl) (pe_callB call_len_seq (by rfl) T.f_len PySem.boot_len (pa_cons (pe_fld (pv 0) rfl) pa_nil)) (nomark _)) (pss_one (ps_raise rfl (takes_of rfl rfl rfl rfl) (raise_own T.e_NoView T.g_NoView (by exact rfl)))) pss_nil), ?_⟩
    refine ⟨_, rfl, v, _, dv, _, _, rfl, hv, T.c_View, T.n_View_room, vf_room _ _ _, _, rfl, st, _, dx, _, _, rfl, hs, T.c_Store, T.n_Store_held, putF_at, h, _, rfl, .inl (sq hh), rfl, _, rfl, ?_⟩
    rw [List.length_map]
    rcases q with ⟨er, q⟩ | ⟨er, q⟩
    · rw [show (!decide (V.int room = V.int (vals.length : Int))) = false by rw [er]; simp]
      exact iteF q
    · rw [show (!decide (V.int room = V.int (vals.length : Int))) = true by rw [decide_eq_false (fun z => er (V.int.inj z))]; rfl]
      exact iteT (q H none (Same.refl H) rfl)
theorem sc_all : FnScope ["self"] ["self"] (defScope sStore_all_values) := ⟨rfl, rfl, rfl, by decide +kernel, rfl, by decide +kernel, by decide +kernel⟩
theorem m_all (T : Txt K mg) : Md P w K mg base CX0 1 "Store" "all_values" ["self"] (spAll K) := by
  obtain ⟨fd, F⟩ := T.d_Store_all_values
  refine ⟨_, fd, fok0 F sc_all (fun vs H Q E h => ?_) (fun cdv A outer s H vs Q E hr h => ?_), T.c_Store, T.m_Store_all_values, bnd F fun _ _ _ _ _ _ us hl => match us, hl with | [_], _ => rfl⟩
  · obtain ⟨s, h, vals, rfl, _⟩ := h
    rfl
  · obtain ⟨st, h, vals, rfl, ⟨_, dx, hs, hh⟩, q⟩ := h
    refine ⟨_, pss_one (ps_ret (pe_callTy call_list_of (by rfl) T.f_list (by decide +kernel) (pa_cons (pe_fld (pv 0) rfl) pa_nil))), ?_⟩
    exact ⟨_, rfl, st, _, dx, _, _, rfl, hs, T.c_Store, T.n_Store_held, putF_at, h, _, rfl, .inl (sq hh), fun p np => q _ p (same_new np) np upd_same⟩
theorem sc_read : FnScope ["self", "view", "cell"] ["self", "view"] (defScope sStore_read) := ⟨rfl, rfl, rfl, by decide +kernel, rfl, by decide +kernel, by decide +kernel⟩
theorem no_held {h : Addr} {m : Str} (hm : ¬ m = "held") : (putF "held" (V.ref h) []).lookup m = none := f1_no hm
theorem m_read (T : Txt K mg) (GN : Md P w K mg base (L2.CX P w) 1 "Store" "need" ["self", "view"] (spNeed K)) (GC : Md P w K mg base (L2.CX P w) 3 "View" "cells" ["self"] (spCells K)) : Md P w K mg base (L2.CX P w) 4 "Store" "read" ["self", "view"] (spRead K) := by
  obtain ⟨fd, F⟩ := T.d_Store_read
  refine ⟨_, fd, fokX F sc_read (fun vs H Q E h => ?_) (fun cdv A outer s H vs Q E hr h => ?_), T.c_Store, T.m_Store_read, bnd F fun _ _ _ _ _ _ us hl => match us, hl with | [_, _], _ => rfl⟩
  · obtain ⟨s, h, v, vals, room, first, ax, rfl, _⟩ := h
    rfl
  · obtain ⟨st, h, v, vals, room, first, ax, rfl, hS, hV, q⟩ := h
    obtain ⟨_, dx, hs, hh⟩ := id hS
    obtain ⟨ok, dv, l, hv, _⟩ := id hV
    have hr1 : Room 1 _ := hr.mono (by decide)
    have noN : (putF "held" (V.ref h) []).lookup ("need" : Str) = none := no_held (by decide +kernel)
    have noC : (vf room first l).lookup ("cells" : Str) = none := vf_no _ _ _ (by decide +kernel) (by decide +kernel) (by decide +kernel)
    refine ⟨_, pss_cons (ps_expr (pe_m (pv 0) GN hr1 (passes_call (takes_of rfl rfl rfl rfl) (fun _ _ _ _ h => h)) (pa_cons (pv 1) pa_nil)))
      (pss_one (ps_ret (pe_lc (own := [("cell", 2)]) (g := gName 2) (tt := tYes) (te := tOp (rIxL K) (tFld K (tVar 0) "held") (tVar 2)) rfl sc_read.nd (pi_list (pe_m0 (pv 1) GC hr (passes_call (takes_of rfl rfl rfl rfl) (fun _ _ _ _ h => h)))) (blkOk_by (N := ["self", "view", "cell"]) (sc := defScope sStore_read) (by decide +kernel))
        (fun _ _ _ _ _ => by exact pg_name (i := 2) sc_read.nd rfl (.inl rfl)) (fun _ _ _ _ _ => pts_nil) (fun _ _ _ _ _ => by exact pe_ix ix_list (pe_fld (pv 0) rfl) (pv 2) (fun _ _ => rfl))))), ?_⟩
    refine ⟨_, rfl, st, dx, _, rfl, hs, noN, _, rfl, st, h, v, vals, room, first, ax, rfl, hS, hV, ?_⟩
    rcases q with ⟨er, hc, q⟩ | ⟨er, hc, q⟩ | ⟨er, q⟩
    · refine .inl ⟨er, ?_⟩
      refine ⟨_, rfl, v, dv, _, rfl, hv, noC, v, room, first, ax, rfl, hV, .inl ⟨hc, fun H1 p s1 np hp => ?_⟩⟩
      refine ⟨p, rfl, ⟨_, sq hp⟩, fun D hD => ?_⟩
      have lenC : ((cellsF first ax).length : Int) ≤ 4096 := by rw [ok.len]; exact hc
      refine lc_list (K := K) (a := p) (xs := (cellsF first ax).map V.int) (fun i H' => Same H1 H' ∧ H' D = some (.lst ((readV vals ((cellsF first ax).take i)).map V.int))) ⟨same_new hD, upd_same⟩ (fun i H' _ ⟨s2, _⟩ => s2.seq (sq hp)) ?_ ?_
      · rintro i y H' hi ⟨s2, h2⟩
        obtain ⟨c, hc2, rfl⟩ := map_at hi
        have cb := ok.cells (at_mem hc2)
        refine ⟨rfl, _, rfl, st, _, dx, _, _, rfl, s2 _ _ (s1 _ _ hs), T.c_Store, T.n_Store_held, putF_at, _, rfl, h, _, _, _, rfl, rfl, sq (s2 _ _ (s1 _ _ hh)), at_cell cb.1 (by omega), _, h2, ?_, same_mut s2 hD, ?_⟩
        · have := at_lt hc2
          exact smallt (m := 4097) (by rw [List.length_map, readV_len, List.length_take]; omega)
        · rw [upd_same, take_more hc2]
          unfold readV
          rw [List.map_append, List.map_append]
          rfl
      · rintro H' ⟨s2, h2⟩
        rw [List.length_map, List.take_length] at h2
        exact q H' D (s1.trans s2) (s1.free hD) h2
    · refine .inl ⟨er, ?_⟩
      exact ⟨_, rfl, v, dv, _, rfl, hv, noC, v, room, first, ax, rfl, hV, .inr ⟨hc, q⟩⟩
    · exact .inr ⟨er, q⟩
theorem sc_put : FnScope ["self", "view", "values", "cell", "value"] ["self", "view", "values"] (defScope sStore_put) := ⟨rfl, rfl, rfl, by decide +kernel, rfl, by decide +kernel, by decide +kernel⟩
theorem m_put (T : Txt K mg) (GN : Md P w K mg base (L2.CX P w) 1 "Store" "need" ["self", "view"] (spNeed K)) (GC : Md P w K mg base (L2.CX P w) 3 "View" "cells" ["self"] (spCells K)) (GT : Md P w K mg base CX0 2 "View" "count" ["self"] (spCount K)) :
    Md P w K mg base CX0 4 "Store" "put" ["self", "view", "values"] (spPut K) := by
  obtain ⟨fd, F⟩ := T.d_Store_put
  refine ⟨_, fd, fok0 F sc_put (fun vs H Q E h => ?_) (fun cdv A outer s H vs Q E hr h => ?_), T.c_Store, T.m_Store_put, bnd F fun _ _ _ _ _ _ us hl => match us, hl with | [_, _, _], _ => rfl⟩
  · obtain ⟨s, h, v, l, vals, ns, room, first, ax, rfl, _⟩ := h
    rfl
  · obtain ⟨st, h, v, l, vals, ns, room, first, ax, rfl, hS, hV, hl, nlh, er, hc, en, q⟩ := h
    obtain ⟨_, dx, hs, hh⟩ := id hS
    obtain ⟨ok, dv, l2, hv, _⟩ := id hV
    have hr1 : Room 1 _ := hr.mono (by decide)
    have hr2 : Room 2 _ := hr.mono (by decide)
    have noN : (putF "held" (V.ref h) []).lookup ("need" : Str) = none := no_held (by decide +kernel)
    have noC : (vf room first l2).lookup ("cells" : Str) = none := vf_no _ _ _ (by decide +kernel) (by decide +kernel) (by decide +kernel)
    have noT : (vf room first l2).lookup ("count" : Str) = none := vf_no _ _ _ (by decide +kernel) (by decide +kernel) (by decide +kernel)
    refine ⟨_, pss_cons (ps_expr (pe_m (pv 0) GN hr1 passL (pa_cons (pv 1) pa_nil)))
      (pss_cons (ps_if (pt_cmpR op_ne (pe_callB call_len_seq (by rfl) T.f_len PySem.boot_len (pa_cons (pv 2) pa_nil)) (pe_m0 (pv 1) GT hr2 pass0) (nomark _)) pss_never pss_nil)
      (pss_one (ps_for PassesOwn.never rfl (pi_zip (by rfl) T.f_zip (pa_cons (pe_m0 (pv 1) GC hr passL) (pa_cons (pv 2) pa_nil))) (pg_tup rfl (pgs_cons (pg_name (i := 3) sc_put.nd rfl (.inl rfl)) (pgs_cons (pg_name (i := 4) sc_put.nd rfl (.inl rfl)) pgs_nil)))
        (pss_one (ps_asg (pv 4) (pg_sub (pe_fld (pv 0) rfl) (pv 3) set_list)))))), ?_⟩
    refine ⟨_, rfl, st, dx, _, rfl, hs, noN, _, rfl, st, h, v, vals, room, first, ax, rfl, hS, hV, .inl ⟨er, ?_⟩⟩
    refine ⟨_, rfl, l, _, rfl, .inl (sq hl), _, rfl, v, dv, _, rfl, hv, noT, v, room, first, ax, rfl, hV, fun H1 s1 => ⟨rfl, _, rfl, ?_⟩⟩
    rw [List.length_map, show (!decide (V.int (ns.length : Int) = V.int (cnt ax))) = false by rw [en]; simp]
    refine iteF ?_
    refine ⟨_, rfl, v, dv, _, rfl, s1 _ _ hv, noC, v, room, first, ax, rfl, hV.mono s1, .inl ⟨hc, fun H2 p s2 np hp => ?_⟩⟩
    have s12 := s1.trans s2
    have hh2 : H2 h = some (.lst (vals.map V.int)) := s12 _ _ hh
    have nph : p ≠ h := (ne_of_none (s1 _ _ hh) np).symm
    have nsh : st ≠ h := (ne_li hh hs).symm
    have lenE : (cellsF first ax).length = ns.length := by
      have := ok.len
      omega
    refine ⟨_, rfl, p, l, _, _, rfl, sq hp, sq (s12 _ _ hl), ?_⟩
    refine RZ.for_zipL (K := K) (a := p) (b := l) (xs := (cellsF first ax).map V.int) (ys := ns.map V.int) (by rw [List.length_map, List.length_map, lenE])
      (fun i σ H' => ∃ v3 v4, σ = [some (.ref st), some (.ref v), some (.ref l), v3, v4] ∧ But h H2 H' ∧ H' h = some (.lst (((((cellsF first ax).zip ns).take i).foldl (fun vs p => vs.set p.1.toNat p.2) vals).map V.int)))
      ⟨none, none, rfl, But.refl _ _, hh2⟩ (fun i σ H' ⟨_, _, _, b, _⟩ => ⟨sq (b _ _ nph hp), sq (b _ _ nlh (s12 _ _ hl))⟩) ?_ ?_
    · rintro i x y t σ H' hx hy ⟨v3, v4, rfl, b, h1⟩ nt
      obtain ⟨c, hc2, rfl⟩ := map_at hx
      obtain ⟨n, hn2, rfl⟩ := map_at hy
      have cb := ok.cells (at_mem hc2)
      have nth : h ≠ t := ne_of_none h1 nt
      have hst : (upd H' t (.tup [.int c, .int n])) st = some (.ins (ga K "Store") dx (putF "held" (.ref h) [])) := same_new nt _ _ (b _ _ nsh (s12 _ _ hs))
      refine ⟨t, _, rfl, .inl (.inl upd_same), rfl, _, _, rfl, _, _, rfl, rfl, ?_⟩
      refine ⟨_, rfl, _, rfl, st, _, dx, _, _, rfl, hst, T.c_Store, T.n_Store_held, putF_at, _, rfl, h, _, c, c.toNat, rfl, rfl, same_new nt _ _ h1, ?_, _, _, rfl, ?_, ?_⟩
      · refine ixN_at cb.1 ?_
        rw [List.length_map, fold_set_len]
        omega
      · exact (b.trans (But.of (same_new nt))).trans But.upd
      · rw [upd_same, map_set', fold_more (zip_at hc2 hn2)]
    · rintro σ H' ⟨v3, v4, rfl, b, h1⟩
      rw [List.length_map, List.take_of_length_le (by rw [List.length_zip]; exact Nat.min_le_left _ _)] at h1
      exact q H' ((But.of s12).trans b) h1
theorem sc_fill : FnScope ["self", "view", "value", "cell"] ["self", "view", "value"] (defScope sStore_fill) := ⟨rfl, rfl, rfl, by decide +kernel, rfl, by decide +kernel, by decide +kernel⟩
theorem m_fill (T : Txt K mg) (GN : Md P w K mg base (L2.CX P w) 1 "Store" "need" ["self", "view"] (spNeed K)) (GC : Md P w K mg base (L2.CX P w) 3 "View" "cells" ["self"] (spCells K)) :
    Md P w K mg base (L2.CX P w) 4 "Store" "fill" ["self", "view", "value"] (spFill K) := by
  obtain ⟨fd, F⟩ := T.d_Store_fill
  refine ⟨_, fd, fokX F sc_fill (fun vs H Q E h => ?_) (fun cdv A outer s H vs Q E hr h => ?_), T.c_Store, T.m_Store_fill, bnd F fun _ _ _ _ _ _ us hl => match us, hl with | [_, _, _], _ => rfl⟩
  · obtain ⟨s, h, v, x, vals, room, first, ax, rfl, _⟩ := h
    rfl
  · obtain ⟨st, h, v, x, vals, room, first, ax, rfl, hS, hV, q⟩ := h
    obtain ⟨_, dx, hs, hh⟩ := id hS
    obtain ⟨ok, dv, l2, hv, _⟩ := id hV
    have hr1 : Room 1 _ := hr.mono (by decide)
    have noN : (putF "held" (V.ref h) []).lookup ("need" : Str) = none := no_held (by decide +kernel)
    have noC : (vf room first l2).lookup ("cells" : Str) = none := vf_no _ _ _ (by decide +kernel) (by decide +kernel) (by decide +kernel)
    refine ⟨_, pss_cons (ps_expr (pe_m (pv 0) GN hr1 (passes_call (takes_of rfl rfl rfl rfl) (fun _ _ _ _ h => h)) (pa_cons (pv 1) pa_nil)))
      (pss_one (ps_for (passes_of rfl) rfl (pi_list (pe_m0 (pv 1) GC hr (passes_call (takes_of rfl rfl rfl rfl) (fun _ _ _ _ h => h)))) (pg_name (i := 3) sc_fill.nd rfl (.inl rfl))
        (pss_one (ps_asg (pv 2) (pg_sub (pe_fld (pv 0) rfl) (pv 3) set_list))))), ?_⟩
    refine ⟨_, rfl, st, dx, _, rfl, hs, noN, _, rfl, st, h, v, vals, room, first, ax, rfl, hS, hV, ?_⟩
    rcases q with ⟨er, hc, q⟩ | ⟨er, hc, q⟩ | ⟨er, q⟩
    · refine .inl ⟨er, ?_⟩
      refine ⟨_, rfl, v, dv, _, rfl, hv, noC, v, room, first, ax, rfl, hV, .inl ⟨hc, fun H1 p s1 np hp => ?_⟩⟩
      have nph : p ≠ h := (ne_of_none hh np).symm
      have nsh : st ≠ h := (ne_li hh hs).symm
      refine ⟨p, rfl, ⟨_, sq hp⟩, ?_⟩
      refine for_list (K := K) (a := p) (xs := (cellsF first ax).map V.int) (fun i σ H' => ∃ v3, σ = [some (.ref st), some (.ref v), some (.int x), v3] ∧ But h H1 H' ∧ H' h = some (.lst ((fillV vals ((cellsF first ax).take i) x).map V.int)))
        ⟨none, rfl, But.refl _ _, s1 _ _ hh⟩ (fun i σ H' _ ⟨_, _, b, _⟩ => sq (b _ _ nph hp)) ?_ ?_
      · rintro i y σ H' hi ⟨v3, rfl, b, h1⟩
        obtain ⟨c, hc2, rfl⟩ := map_at hi
        have cb := ok.cells (at_mem hc2)
        refine ⟨_, rfl, _, rfl, st, _, dx, _, _, rfl, b _ _ nsh (s1 _ _ hs), T.c_Store, T.n_Store_held, putF_at, _, rfl, h, _, c, c.toNat, rfl, rfl, h1, ?_, _, rfl, ?_, ?_⟩
        · refine ixN_at cb.1 ?_
          rw [List.length_map, fillV_len]
          omega
        · exact b.trans But.upd
        · rw [upd_same, map_set']
          have e : fillV vals ((cellsF first ax).take (i + 1)) x = (fillV vals ((cellsF first ax).take i) x).set c.toNat x := fold_more hc2
          rw [e]
      · rintro σ H' ⟨v3, rfl, b, h1⟩
        rw [List.length_map, List.take_length] at h1
        exact q H' ((But.of s1).trans b) h1
    · refine .inl ⟨er, ?_⟩
      exact ⟨_, rfl, v, dv, _, rfl, hv, noC, v, room, first, ax, rfl, hV, .inr ⟨hc, q⟩⟩
    · exact .inr ⟨er, q⟩
theorem sc_copied : FnScope ["self", "to", "source"] ["self", "to", "source"] (defScope sStore_copied) := ⟨rfl, rfl, rfl, by decide +kernel, rfl, by decide +kernel, by decide +kernel⟩
theorem m_copied (T : Txt K mg) (GN : Md P w K mg base (L2.CX P w) 1 "Store" "need" ["self", "view"] (spNeed K)) (GT : Md P w K mg base CX0 2 "View" "count" ["self"] (spCount K))
    (GR : Md P w K mg base (L2.CX P w) 4 "Store" "read" ["self", "view"] (spRead K)) (GP : Md P w K mg base CX0 4 "Store" "put" ["self", "view", "values"] (spPut K)) :
    Md P w K mg base (L2.CX P w) 5 "Store" "copied" ["self", "to", "source"] (spCopied K) := by
  obtain ⟨fd, F⟩ := T.d_Store_copied
  refine ⟨_, fd, fokX F sc_copied (fun vs H Q E h => ?_) (fun cdv A outer s H vs Q E hr h => ?_), T.c_Store, T.m_Store_copied, bnd F fun _ _ _ _ _ _ us hl => match us, hl with | [_, _, _], _ => rfl⟩
  · obtain ⟨s, h, v, u, vals, room, g1, g2, ax, bx, rfl, _⟩ := h
    rfl
  · obtain ⟨st, h, v, u, vals, room, g1, g2, ax, bx, rfl, hS, hV, hU, ec, q⟩ := h
    obtain ⟨z0, dx, hs, hh⟩ := id hS
    obtain ⟨ok, dv, lv, hv, _⟩ := id hV
    obtain ⟨okU, du, lu, hu, _⟩ := id hU
    have hr1 : Room 1 _ := hr.mono (by decide)
    have hr2 : Room 2 _ := hr.mono (by decide)
    have noN : (putF "held" (V.ref h) []).lookup ("need" : Str) = none := no_held (by decide +kernel)
    have noR : (putF "held" (V.ref h) []).lookup ("read" : Str) = none := no_held (by decide +kernel)
    have noP : (putF "held" (V.ref h) []).lookup ("put" : Str) = none := no_held (by decide +kernel)
    have noV : (vf room g1 lv).lookup ("count" : Str) = none := vf_no _ _ _ (by decide +kernel) (by decide +kernel) (by decide +kernel)
    have noU : (vf room g2 lu).lookup ("count" : Str) = none := vf_no _ _ _ (by decide +kernel) (by decide +kernel) (by decide +kernel)
    refine ⟨_, pss_cons (ps_expr (pe_m (pv 0) GN hr1 (passes_call (takes_of rfl rfl rfl rfl) (fun _ _ _ _ h => h)) (pa_cons (pv 1) pa_nil)))
      (pss_cons (ps_expr (pe_m (pv 0) GN hr1 (passes_call (takes_of rfl rfl rfl rfl) (fun _ _ _ _ h => h)) (pa_cons (pv 2) pa_nil)))
      (pss_cons (ps_if (pt_cmpR op_ne (pe_m0 (pv 1) GT hr2 pass0) (pe_m0 (pv 2) GT hr2 pass0) (nomark _)) pss_never pss_nil)
      (pss_one (ps_expr (pe_m (pv 0) GP hr pass0 (pa_cons (pv 1) (pa_cons (pe_m (pv 0) GR hr (passes_call (takes_of rfl rfl rfl rfl) (fun _ _ _ _ h => h)) (pa_cons (pv 2) pa_nil)) pa_nil))))))), ?_⟩
    refine ⟨_, rfl, st, dx, _, rfl, hs, noN, _, rfl, st, h, v, vals, room, g1, ax, rfl, hS, hV, ?_⟩
    have go : room = (vals.length : Int) → ∀ D : Ends, (∀ H2, Same H H2 → (tDrop (tMeth (ga K "Store") "put" (spPut K) [] E0 (tVar 0) (tCons (tVar 1) (tCons (tMeth (ga K "Store") "read" (spRead K) [] E (tVar 0) (tCons (tVar 2) tNil)) tNil)))) D (start ["self", "to", "source"] [.ref st, .ref v, .ref u]) H2) →
        tSeq (tDrop (tMeth (ga K "Store") "need" (spNeed K) [] E (tVar 0) (tCons (tVar 2) tNil))) (tSeq (tIfS (tTest (tOp rNe (tMeth (ga K "View") "count" (spCount K) [] E0 (tVar 1) tNil) (tMeth (ga K "View") "count" (spCount K) [] E0 (tVar 2) tNil))) tNever tNext)
          (tDrop (tMeth (ga K "Store") "put" (spPut K) [] E0 (tVar 0) (tCons (tVar 1) (tCons (tMeth (ga K "Store") "read" (spRead K) [] E (tVar 0) (tCons (tVar 2) tNil)) tNil))))) D (start ["self", "to", "source"] [.ref st, .ref v, .ref u]) H := by
      intro er D k
      refine ⟨_, rfl, st, dx, _, rfl, hs, noN, _, rfl, st, h, u, vals, room, g2, bx, rfl, hS, hU, .inl ⟨er, ?_⟩⟩
      refine ⟨_, rfl, v, dv, _, rfl, hv, noV, v, room, g1, ax, rfl, hV, fun H1 s1 => ?_⟩
      refine ⟨_, rfl, u, du, _, rfl, s1 _ _ hu, noU, u, room, g2, bx, rfl, hU.mono s1, fun H2 s2 => ⟨rfl, _, rfl, ?_⟩⟩
      rw [show (!decide (V.int (cnt ax) = V.int (cnt bx))) = false by rw [ec]; simp]
      exact iteF (k H2 (s1.trans s2))
    rcases q with ⟨er, hc, q⟩ | ⟨er, hc, q⟩ | ⟨er, q⟩
    · refine .inl ⟨er, go er _ fun H2 s2 => ?_⟩
      refine ⟨_, rfl, st, dx, _, rfl, s2 _ _ hs, noP, _, rfl, _, rfl, st, dx, _, rfl, s2 _ _ hs, noR, _, rfl, st, h, u, vals, room, g2, bx, rfl, hS.mono s2, hU.mono s2, .inl ⟨er, hc, fun H3 p s3 np hp => ?_⟩⟩
      have s23 := s2.trans s3
      have nph : p ≠ h := (ne_of_none (s2 _ _ hh) np).symm
      refine ⟨st, h, v, p, vals, _, room, g1, ax, rfl, hS.mono s23, hV.mono s23, hp, nph, er, by omega, ?_, fun H4 b4 h4 => q H4 ((But.of s23).trans b4) h4⟩
      rw [readV_len, ec]
      exact okU.len
    · refine .inl ⟨er, go er _ fun H2 s2 => ?_⟩
      exact ⟨_, rfl, st, dx, _, rfl, s2 _ _ hs, noP, _, rfl, _, rfl, st, dx, _, rfl, s2 _ _ hs, noR, _, rfl, st, h, u, vals, room, g2, bx, rfl, hS.mono s2, hU.mono s2, .inr (.inl ⟨er, hc, q.mono s2⟩)⟩
    · exact .inr ⟨er, q⟩
end
end K81
/-! Statements: made, what they tell, done. -/
namespace K81
open PySem PySem.Spec PyProof.Rows L2 He
/-- a comprehension over zip of two lists of one length -/
theorem lc_zipL {K : PySem.W.Frag} {a b : Addr} {xs ys : List V} {g : TG} {tt : TT} {te : TE} {vs : List Nat} {σ : L2.St} {H1 : Hp} {D : Addr} {Qd : Hp → Prop} (hl : xs.length = ys.length) (Pv : Nat → Hp → Prop) (h0 : Pv 0 (upd H1 D (.lst []))) (hq : ∀ i H, Pv i H → SqL K H a xs ∧ SqL K H b ys)
    (hs : ∀ i x y T H, xs[i]? = some x → ys[i]? = some y → Pv i H → H T = none → g (.ref T) (wipe σ vs) (upd H T (.tup [x, y])) fun σ2 H2 => wipe σ2 vs = wipe σ vs ∧ tt σ2 H2 fun b H3 =>
      if b = true then te σ2 H3 fun y H4 => ∃ acc, H4 D = some (.lst acc) ∧ acc.length < sizeLine ∧ Pv (i + 1) (upd H4 D (.lst (acc ++ [y]))) else Pv (i + 1) H3) (hd : ∀ H, Pv xs.length H → Qd H) :
    ∃ W : Nat → Nat → Hp → Prop, (∃ m, W 0 m (upd H1 D (.lst []))) ∧ ∀ i m H, W i m H →
      ((Itz K a b).stop i H ∧ Qd H) ∨ ((Itz K a b).go i H ∧ ∃ Nx : Hp → Prop, (∀ H', Nx H' → ∃ m', m' < m ∧ W (i + 1) m' H') ∧ ∀ x H', (Itz K a b).yld i H x H' → g x (wipe σ vs) H' fun σ2 H2 => wipe σ2 vs = wipe σ vs ∧ tt σ2 H2 fun b H3 =>
        if b = true then te σ2 H3 fun y H4 => ∃ acc, H4 D = some (.lst acc) ∧ acc.length < sizeLine ∧ Nx (upd H4 D (.lst (acc ++ [y]))) else Nx H3) := by
  refine ⟨fun i m H => m = xs.length - i ∧ i ≤ xs.length ∧ Pv i H, ⟨xs.length, by simp, Nat.zero_le _, h0⟩, ?_⟩
  rintro i m H ⟨rfl, hi, p⟩
  obtain ⟨qx, qy⟩ := hq i H p
  by_cases hlt : i < xs.length
  · have hx : xs[i]? = some xs[i] := List.getElem?_eq_getElem hlt
    have hlt2 : i < ys.length := by omega
    have hy : ys[i]? = some ys[i] := List.getElem?_eq_getElem hlt2
    refine .inr ⟨⟨xs, ys, _, _, qx, qy, hx, hy⟩, Pv (i + 1), fun H' p' => ⟨xs.length - (i + 1), by omega, rfl, hlt, p'⟩, fun v H' y => ?_⟩
    obtain ⟨T, x', y', rfl, hT, rfl, f1, f2⟩ := y
    exact hs i x' y' T H (f1 xs qx) (f2 ys qy) p hT
  · have e : i = xs.length := by omega
    subst e
    exact .inl ⟨⟨xs, ys, qx, qy, Or.inl (Nat.le_refl _)⟩, hd H p⟩
theorem zip_add : ∀ xs ys : List Int, (xs.zip ys).map (fun p => p.1 + p.2) = List.zipWith (· + ·) xs ys
  | [], _ => by simp
  | _ :: _, [] => by simp
  | x :: xs, y :: ys => by
    show (x + y) :: (xs.zip ys).map (fun p => p.1 + p.2) = (x + y) :: List.zipWith (· + ·) xs ys
    rw [zip_add xs ys]
theorem no_f2 {f g m : Str} {x y : V} (h1 : ¬ m = f) (h2 : ¬ m = g) : (f2 f g x y).lookup m = none := f2_no h1 h2
section
variable {P : Program} {w : World} {K : PySem.W.Frag} {mg : Str → Option Value} {base : Heap}
theorem sc_Fillinit : FnScope ["self", "to", "value"] ["self", "to", "value"] (defScope sFill_init) := ⟨rfl, rfl, rfl, by decide +kernel, rfl, by decide +kernel, by decide +kernel⟩
theorem k_Fill (T : Txt K mg) : Kl P w K mg base CX0 1 "Fill" ["self", "to", "value"] (spFillInit K) := by
  obtain ⟨fd, F⟩ := T.d_Fill___init__
  refine ⟨_, fd, fok0 F sc_Fillinit (fun vs H Q E h => ?_) (fun cdv A outer s H vs Q E hr h => ?_), T.k_Fill, T.g_Fill, bnd F fun _ _ _ _ _ _ us hl => match us, hl with | [_, _, _], _ => rfl⟩
  · obtain ⟨x, dx, a, n, rfl, _⟩ := h
    rfl
  · obtain ⟨x, dx, a, n, rfl, hx, q⟩ := h
    refine ⟨_, pss_cons (ps_fld (pv 0) (pv 1) rfl) (pss_one (ps_fld (pv 0) (pv 2) rfl)), ?_⟩
    refine ⟨_, rfl, _, rfl, x, _, dx, _, rfl, hx, T.c_Fill, T.n_Fill_to, (by decide), ?_⟩
    refine ⟨_, rfl, _, rfl, x, _, dx, _, rfl, upd_same, T.c_Fill, T.n_Fill_value, len1, ?_⟩
    rw [upd_upd]
    exact q
theorem sc_Copyinit : FnScope ["self", "to", "source"] ["self", "to", "source"] (defScope sCopy_init) := ⟨rfl, rfl, rfl, by decide +kernel, rfl, by decide +kernel, by decide +kernel⟩
theorem k_Copy (T : Txt K mg) (GN : Gd P w K mg base (L2.CX P w) 3 "need_pair" ["one", "other"] (spNeedPair K)) : Kl P w K mg base (L2.CX P w) 4 "Copy" ["self", "to", "source"] (spInit2 K "Copy" "to" "source") := by
  obtain ⟨fd, F⟩ := T.d_Copy___init__
  refine ⟨_, fd, fokX F sc_Copyinit (fun vs H Q E h => ?_) (fun cdv A outer s H vs Q E hr h => ?_), T.k_Copy, T.g_Copy, bnd F fun _ _ _ _ _ _ us hl => match us, hl with | [_, _, _], _ => rfl⟩
  · obtain ⟨x, dx, a, b, r1, r2, g1, g2, ax, bx, rfl, _⟩ := h
    rfl
  · obtain ⟨x, dx, a, b, r1, r2, g1, g2, ax, bx, rfl, hx, hA, hB, q⟩ := h
    refine ⟨_, pss_cons (ps_expr (pe_g GN hr (passes_call (takes_of rfl rfl rfl rfl) (fun _ _ _ _ h => h)) (pa_cons (pv 1) (pa_cons (pv 2) pa_nil)))) (pss_cons (ps_fld (pv 0) (pv 1) rfl) (pss_one (ps_fld (pv 0) (pv 2) rfl))), ?_⟩
    refine ⟨_, rfl, _, rfl, a, b, r1, r2, g1, g2, ax, bx, rfl, hA, hB, ?_⟩
    rcases q with ⟨er, ec, q⟩ | ⟨er, q⟩ | ⟨er, ec, q⟩
    · refine .inl ⟨er, ec, fun H1 s1 => ?_⟩
      refine ⟨_, rfl, _, rfl, x, _, dx, _, rfl, s1 _ _ hx, T.c_Copy, T.n_Copy_to, (by decide), ?_⟩
      refine ⟨_, rfl, _, rfl, x, _, dx, _, rfl, upd_same, T.c_Copy, T.n_Copy_source, len1, ?_⟩
      rw [upd_upd]
      exact q H1 s1
    · exact .inr (.inl ⟨er, q⟩)
    · exact .inr (.inr ⟨er, ec, q⟩)
theorem sc_Swapinit : FnScope ["self", "one", "other"] ["self", "one", "other"] (defScope sSwap_init) := ⟨rfl, rfl, rfl, by decide +kernel, rfl, by decide +kernel, by decide +kernel⟩
theorem k_Swap (T : Txt K mg) (GN : Gd P w K mg base (L2.CX P w) 3 "need_pair" ["one", "other"] (spNeedPair K)) : Kl P w K mg base (L2.CX P w) 4 "Swap" ["self", "one", "other"] (spInit2 K "Swap" "one" "other") := by
  obtain ⟨fd, F⟩ := T.d_Swap___init__
  refine ⟨_, fd, fokX F sc_Swapinit (fun vs H Q E h => ?_) (fun cdv A outer s H vs Q E hr h => ?_), T.k_Swap, T.g_Swap, bnd F fun _ _ _ _ _ _ us hl => match us, hl with | [_, _, _], _ => rfl⟩
  · obtain ⟨x, dx, a, b, r1, r2, g1, g2, ax, bx, rfl, _⟩ := h
    rfl
  · obtain ⟨x, dx, a, b, r1, r2, g1, g2, ax, bx, rfl, hx, hA, hB, q⟩ := h
    refine ⟨_, pss_cons (ps_expr (pe_g GN hr (passes_call (takes_of rfl rfl rfl rfl) (fun _ _ _ _ h => h)) (pa_cons (pv 1) (pa_cons (pv 2) pa_nil)))) (pss_cons (ps_fld (pv 0) (pv 1) rfl) (pss_one (ps_fld (pv 0) (pv 2) rfl))), ?_⟩
    refine ⟨_, rfl, _, rfl, a, b, r1, r2, g1, g2, ax, bx, rfl, hA, hB, ?_⟩
    rcases q with ⟨er, ec, q⟩ | ⟨er, q⟩ | ⟨er, ec, q⟩
    · refine .inl ⟨er, ec, fun H1 s1 => ?_⟩
      refine ⟨_, rfl, _, rfl, x, _, dx, _, rfl, s1 _ _ hx, T.c_Swap, T.n_Swap_one, (by decide), ?_⟩
      refine ⟨_, rfl, _, rfl, x, _, dx, _, rfl, upd_same, T.c_Swap, T.n_Swap_other, len1, ?_⟩
      rw [upd_upd]
      exact q H1 s1
    · exact .inr (.inl ⟨er, q⟩)
    · exact .inr (.inr ⟨er, ec, q⟩)
theorem sc_Raiseinit : FnScope ["self", "to", "source"] ["self", "to", "source"] (defScope sRaise_init) := ⟨rfl, rfl, rfl, by decide +kernel, rfl, by decide +kernel, by decide +kernel⟩
theorem k_Raise (T : Txt K mg) (GN : Gd P w K mg base (L2.CX P w) 3 "need_pair" ["one", "other"] (spNeedPair K)) : Kl P w K mg base (L2.CX P w) 4 "Raise" ["self", "to", "source"] (spInit2 K "Raise" "to" "source") := by
  obtain ⟨fd, F⟩ := T.d_Raise___init__
  refine ⟨_, fd, fokX F sc_Raiseinit (fun vs H Q E h => ?_) (fun cdv A outer s H vs Q E hr h => ?_), T.k_Raise, T.g_Raise, bnd F fun _ _ _ _ _ _ us hl => match us, hl with | [_, _, _], _ => rfl⟩
  · obtain ⟨x, dx, a, b, r1, r2, g1, g2, ax, bx, rfl, _⟩ := h
    rfl
  · obtain ⟨x, dx, a, b, r1, r2, g1, g2, ax, bx, rfl, hx, hA, hB, q⟩ := h
    refine ⟨_, pss_cons (ps_expr (pe_g GN hr (passes_call (takes_of rfl rfl rfl rfl) (fun _ _ _ _ h => h)) (pa_cons (pv 1) (pa_cons (pv 2) pa_nil)))) (pss_cons (ps_fld (pv 0) (pv 1) rfl) (pss_one (ps_fld (pv 0) (pv 2) rfl))), ?_⟩
    refine ⟨_, rfl, _, rfl, a, b, r1, r2, g1, g2, ax, bx, rfl, hA, hB, ?_⟩
    rcases q with ⟨er, ec, q⟩ | ⟨er, q⟩ | ⟨er, ec, q⟩
    · refine .inl ⟨er, ec, fun H1 s1 => ?_⟩
      refine ⟨_, rfl, _, rfl, x, _, dx, _, rfl, s1 _ _ hx, T.c_Raise, T.n_Raise_to, (by decide), ?_⟩
      refine ⟨_, rfl, _, rfl, x, _, dx, _, rfl, upd_same, T.c_Raise, T.n_Raise_source, len1, ?_⟩
      rw [upd_upd]
      exact q H1 s1
    · exact .inr (.inl ⟨er, q⟩)
    · exact .inr (.inr ⟨er, ec, q⟩)
theorem sc_Statementwrites : FnScope ["self"] ["self"] (defScope sStatement_writes) := ⟨rfl, rfl, rfl, by decide +kernel, rfl, by decide +kernel, by decide +kernel⟩
theorem sc_Statementreads : FnScope ["self"] ["self"] (defScope sStatement_reads) := ⟨rfl, rfl, rfl, by decide +kernel, rfl, by decide +kernel, by decide +kernel⟩
theorem m_Statement_writes (T : Txt K mg) : Md P w K mg base CX0 1 "Statement" "writes" ["self"] spTell0 := by
  obtain ⟨fd, F⟩ := T.d_Statement_writes
  refine ⟨_, fd, fok0 F sc_Statementwrites (fun vs H Q E h => ?_) (fun cdv A outer s H vs Q E hr h => ?_), T.c_Statement, T.m_Statement_writes, bnd F fun _ _ _ _ _ _ us hl => match us, hl with | [_], _ => rfl⟩
  · obtain ⟨x, rfl, _⟩ := h
    rfl
  · obtain ⟨x, rfl, q⟩ := h
    refine ⟨_, pss_one (ps_ret (pe_lst pa_nil)), ?_⟩
    exact ⟨Nat.zero_le _, fun p np => q p np⟩
theorem m_Statement_reads (T : Txt K mg) : Md P w K mg base CX0 1 "Statement" "reads" ["self"] spTell0 := by
  obtain ⟨fd, F⟩ := T.d_Statement_reads
  refine ⟨_, fd, fok0 F sc_Statementreads (fun vs H Q E h => ?_) (fun cdv A outer s H vs Q E hr h => ?_), T.c_Statement, T.m_Statement_reads, bnd F fun _ _ _ _ _ _ us hl => match us, hl with | [_], _ => rfl⟩
  · obtain ⟨x, rfl, _⟩ := h
    rfl
  · obtain ⟨x, rfl, q⟩ := h
    refine ⟨_, pss_one (ps_ret (pe_lst pa_nil)), ?_⟩
    exact ⟨Nat.zero_le _, fun p np => q p np⟩
theorem m_Fill_reads (T : Txt K mg) : Md P w K mg base CX0 1 "Fill" "reads" ["self"] spTell0 := by
  obtain ⟨fd, F⟩ := T.d_Fill_reads
  refine ⟨_, fd, fok0 F sc_Statementreads (fun vs H Q E h => ?_) (fun cdv A outer s H vs Q E hr h => ?_), T.c_Fill, T.m_Fill_reads, bnd F fun _ _ _ _ _ _ us hl => match us, hl with | [_], _ => rfl⟩
  · obtain ⟨x, rfl, _⟩ := h
    rfl
  · obtain ⟨x, rfl, q⟩ := h
    refine ⟨_, pss_one (ps_ret (pe_lst pa_nil)), ?_⟩
    exact ⟨Nat.zero_le _, fun p np => q p np⟩
theorem sc_Fillwrites : FnScope ["self"] ["self"] (defScope sFill_writes) := ⟨rfl, rfl, rfl, by decide +kernel, rfl, by decide +kernel, by decide +kernel⟩
theorem m_Fill_writes (T : Txt K mg) : Md P w K mg base CX0 1 "Fill" "writes" ["self"] (spTell K "Fill" "to" "value" (fun u v => [u])) := by
  obtain ⟨fd, F⟩ := T.d_Fill_writes
  refine ⟨_, fd, fok0 F sc_Fillwrites (fun vs H Q E h => ?_) (fun cdv A outer s H vs Q E hr h => ?_), T.c_Fill, T.m_Fill_writes, bnd F fun _ _ _ _ _ _ us hl => match us, hl with | [_], _ => rfl⟩
  · obtain ⟨x, dx, u, v, rfl, _⟩ := h
    rfl
  · obtain ⟨x, dx, u, v, rfl, hx, q⟩ := h
    refine ⟨_, pss_one (ps_ret (pe_lst (pa_cons (pe_fld (pv 0) rfl) pa_nil))), ?_⟩
    exact ⟨_, rfl, x, _, dx, _, _, rfl, hx, T.c_Fill, T.n_Fill_to, (f2_fst (by decide +kernel)), (by show 1 ≤ sizeLine; decide), fun p np => q p np⟩
theorem sc_Copywrites : FnScope ["self"] ["self"] (defScope sCopy_writes) := ⟨rfl, rfl, rfl, by decide +kernel, rfl, by decide +kernel, by decide +kernel⟩
theorem m_Copy_writes (T : Txt K mg) : Md P w K mg base CX0 1 "Copy" "writes" ["self"] (spTell K "Copy" "to" "source" (fun u v => [u])) := by
  obtain ⟨fd, F⟩ := T.d_Copy_writes
  refine ⟨_, fd, fok0 F sc_Copywrites (fun vs H Q E h => ?_) (fun cdv A outer s H vs Q E hr h => ?_), T.c_Copy, T.m_Copy_writes, bnd F fun _ _ _ _ _ _ us hl => match us, hl with | [_], _ => rfl⟩
  · obtain ⟨x, dx, u, v, rfl, _⟩ := h
    rfl
  · obtain ⟨x, dx, u, v, rfl, hx, q⟩ := h
    refine ⟨_, pss_one (ps_ret (pe_lst (pa_cons (pe_fld (pv 0) rfl) pa_nil))), ?_⟩
    exact ⟨_, rfl, x, _, dx, _, _, rfl, hx, T.c_Copy, T.n_Copy_to, (f2_fst (by decide +kernel)), (by show 1 ≤ sizeLine; decide), fun p np => q p np⟩
theorem sc_Copyreads : FnScope ["self"] ["self"] (defScope sCopy_reads) := ⟨rfl, rfl, rfl, by decide +kernel, rfl, by decide +kernel, by decide +kernel⟩
theorem m_Copy_reads (T : Txt K mg) : Md P w K mg base CX0 1 "Copy" "reads" ["self"] (spTell K "Copy" "to" "source" (fun u v => [v])) := by
  obtain ⟨fd, F⟩ := T.d_Copy_reads
  refine ⟨_, fd, fok0 F sc_Copyreads (fun vs H Q E h => ?_) (fun cdv A outer s H vs Q E hr h => ?_), T.c_Copy, T.m_Copy_reads, bnd F fun _ _ _ _ _ _ us hl => match us, hl with | [_], _ => rfl⟩
  · obtain ⟨x, dx, u, v, rfl, _⟩ := h
    rfl
  · obtain ⟨x, dx, u, v, rfl, hx, q⟩ := h
    refine ⟨_, pss_one (ps_ret (pe_lst (pa_cons (pe_fld (pv 0) rfl) pa_nil))), ?_⟩
    exact ⟨_, rfl, x, _, dx, _, _, rfl, hx, T.c_Copy, T.n_Copy_source, f2_snd, (by show 1 ≤ sizeLine; decide), fun p np => q p np⟩
theorem sc_Swapwrites : FnScope ["self"] ["self"] (defScope sSwap_writes) := ⟨rfl, rfl, rfl, by decide +kernel, rfl, by decide +kernel, by decide +kernel⟩
theorem m_Swap_writes (T : Txt K mg) : Md P w K mg base CX0 1 "Swap" "writes" ["self"] (spTell K "Swap" "one" "other" (fun u v => [u, v])) := by
  obtain ⟨fd, F⟩ := T.d_Swap_writes
  refine ⟨_, fd, fok0 F sc_Swapwrites (fun vs H Q E h => ?_) (fun cdv A outer s H vs Q E hr h => ?_), T.c_Swap, T.m_Swap_writes, bnd F fun _ _ _ _ _ _ us hl => match us, hl with | [_], _ => rfl⟩
  · obtain ⟨x, dx, u, v, rfl, _⟩ := h
    rfl
  · obtain ⟨x, dx, u, v, rfl, hx, q⟩ := h
    refine ⟨_, pss_one (ps_ret (pe_lst (pa_cons (pe_fld (pv 0) rfl) (pa_cons (pe_fld (pv 0) rfl) pa_nil)))), ?_⟩
    exact ⟨_, rfl, x, _, dx, _, _, rfl, hx, T.c_Swap, T.n_Swap_one, (f2_fst (by decide +kernel)), _, rfl, x, _, dx, _, _, rfl, hx, T.c_Swap, T.n_Swap_other, f2_snd, (by show 2 ≤ sizeLine; decide), fun p np => q p np⟩
theorem sc_Swapreads : FnScope ["self"] ["self"] (defScope sSwap_reads) := ⟨rfl, rfl, rfl, by decide +kernel, rfl, by decide +kernel, by decide +kernel⟩
theorem m_Swap_reads (T : Txt K mg) : Md P w K mg base CX0 1 "Swap" "reads" ["self"] (spTell K "Swap" "one" "other" (fun u v => [u, v])) := by
  obtain ⟨fd, F⟩ := T.d_Swap_reads
  refine ⟨_, fd, fok0 F sc_Swapreads (fun vs H Q E h => ?_) (fun cdv A outer s H vs Q E hr h => ?_), T.c_Swap, T.m_Swap_reads, bnd F fun _ _ _ _ _ _ us hl => match us, hl with | [_], _ => rfl⟩
  · obtain ⟨x, dx, u, v, rfl, _⟩ := h
    rfl
  · obtain ⟨x, dx, u, v, rfl, hx, q⟩ := h
    refine ⟨_, pss_one (ps_ret (pe_lst (pa_cons (pe_fld (pv 0) rfl) (pa_cons (pe_fld (pv 0) rfl) pa_nil)))), ?_⟩
    exact ⟨_, rfl, x, _, dx, _, _, rfl, hx, T.c_Swap, T.n_Swap_one, (f2_fst (by decide +kernel)), _, rfl, x, _, dx, _, _, rfl, hx, T.c_Swap, T.n_Swap_other, f2_snd, (by show 2 ≤ sizeLine; decide), fun p np => q p np⟩
theorem sc_Raisewrites : FnScope ["self"] ["self"] (defScope sRaise_writes) := ⟨rfl, rfl, rfl, by decide +kernel, rfl, by decide +kernel, by decide +kernel⟩
theorem m_Raise_writes (T : Txt K mg) : Md P w K mg base CX0 1 "Raise" "writes" ["self"] (spTell K "Raise" "to" "source" (fun u v => [u])) := by
  obtain ⟨fd, F⟩ := T.d_Raise_writes
  refine ⟨_, fd, fok0 F sc_Raisewrites (fun vs H Q E h => ?_) (fun cdv A outer s H vs Q E hr h => ?_), T.c_Raise, T.m_Raise_writes, bnd F fun _ _ _ _ _ _ us hl => match us, hl with | [_], _ => rfl⟩
  · obtain ⟨x, dx, u, v, rfl, _⟩ := h
    rfl
  · obtain ⟨x, dx, u, v, rfl, hx, q⟩ := h
    refine ⟨_, pss_one (ps_ret (pe_lst (pa_cons (pe_fld (pv 0) rfl) pa_nil))), ?_⟩
    exact ⟨_, rfl, x, _, dx, _, _, rfl, hx, T.c_Raise, T.n_Raise_to, (f2_fst (by decide +kernel)), (by show 1 ≤ sizeLine; decide), fun p np => q p np⟩
theorem sc_Raisereads : FnScope ["self"] ["self"] (defScope sRaise_reads) := ⟨rfl, rfl, rfl, by decide +kernel, rfl, by decide +kernel, by decide +kernel⟩
theorem m_Raise_reads (T : Txt K mg) : Md P w K mg base CX0 1 "Raise" "reads" ["self"] (spTell K "Raise" "to" "source" (fun u v => [u, v])) := by
  obtain ⟨fd, F⟩ := T.d_Raise_reads
  refine ⟨_, fd, fok0 F sc_Raisereads (fun vs H Q E h => ?_) (fun cdv A outer s H vs Q E hr h => ?_), T.c_Raise, T.m_Raise_reads, bnd F fun _ _ _ _ _ _ us hl => match us, hl with | [_], _ => rfl⟩
  · obtain ⟨x, dx, u, v, rfl, _⟩ := h
    rfl
  · obtain ⟨x, dx, u, v, rfl, hx, q⟩ := h
    refine ⟨_, pss_one (ps_ret (pe_lst (pa_cons (pe_fld (pv 0) rfl) (pa_cons (pe_fld (pv 0) rfl) pa_nil)))), ?_⟩
    exact ⟨_, rfl, x, _, dx, _, _, rfl, hx, T.c_Raise, T.n_Raise_to, (f2_fst (by decide +kernel)), _, rfl, x, _, dx, _, _, rfl, hx, T.c_Raise, T.n_Raise_source, f2_snd, (by show 2 ≤ sizeLine; decide), fun p np => q p np⟩
theorem sc_Statementrun : FnScope ["self", "store"] ["self", "store"] (defScope sStatement_run) := ⟨rfl, rfl, rfl, by decide +kernel, rfl, by decide +kernel, by decide +kernel⟩
theorem m_Statement_run (T : Txt K mg) : Md P w K mg base (L2.CX P w) 6 "Statement" "run" ["self", "store"] (spRun K 0) := by
  obtain ⟨fd, F⟩ := T.d_Statement_run
  refine ⟨_, fd, fokX F sc_Statementrun (fun vs H Q E h => ?_) (fun cdv A outer s H vs Q E hr h => ?_), T.c_Statement, T.m_Statement_run, bnd F fun _ _ _ _ _ _ us hl => match us, hl with | [_, _], _ => rfl⟩
  · obtain ⟨st, s, h, a, b, x, vals, room, g1, g2, ax, bx, rfl, _⟩ := h
    rfl
  · obtain ⟨st, sr, h, a, b, x, vals, room, g1, g2, ax, bx, rfl, hT, ⟨_, dx, hs, hh⟩, hA, hB, ec, q⟩ := h
    refine ⟨_, pss_one ps_pass, ?_⟩
    rcases q with ⟨er, hc, q⟩ | ⟨hw, _⟩ | ⟨hw, _⟩
    · exact q H (But.refl _ _) hh
    · exact absurd hw (by decide)
    · exact absurd hw (by decide)
theorem sc_Fillrun : FnScope ["self", "store"] ["self", "store"] (defScope sFill_run) := ⟨rfl, rfl, rfl, by decide +kernel, rfl, by decide +kernel, by decide +kernel⟩
theorem m_Fill_run (T : Txt K mg) (GF : Md P w K mg base (L2.CX P w) 4 "Store" "fill" ["self", "view", "value"] (spFill K)) : Md P w K mg base (L2.CX P w) 6 "Fill" "run" ["self", "store"] (spRun K 1) := by
  obtain ⟨fd, F⟩ := T.d_Fill_run
  refine ⟨_, fd, fokX F sc_Fillrun (fun vs H Q E h => ?_) (fun cdv A outer s H vs Q E hr h => ?_), T.c_Fill, T.m_Fill_run, bnd F fun _ _ _ _ _ _ us hl => match us, hl with | [_, _], _ => rfl⟩
  · obtain ⟨st, s, h, a, b, x, vals, room, g1, g2, ax, bx, rfl, _⟩ := h
    rfl
  · obtain ⟨st, sr, h, a, b, x, vals, room, g1, g2, ax, bx, rfl, ⟨dt, ht⟩, hS, hA, hB, ec, q⟩ := h
    obtain ⟨_, dx, hs, hh⟩ := id hS
    have ht : H st = some (.ins (ga K "Fill") dt (f2 "to" "value" (.ref a) (.int x))) := ht
    have hr1 : Room 4 _ := hr.mono (by decide)
    refine ⟨_, pss_one (ps_expr (pe_m (pv 1) GF hr1 (passes_call (takes_of rfl rfl rfl rfl) (fun _ _ _ _ h => h)) (pa_cons (pe_fld (pv 0) rfl) (pa_cons (pe_fld (pv 0) rfl) pa_nil)))), ?_⟩
    refine ⟨_, rfl, sr, dx, _, rfl, hs, no_held (by decide +kernel), _, rfl, st, _, dt, _, _, rfl, ht, T.c_Fill, T.n_Fill_to, f2_fst (by decide +kernel), _, rfl, st, _, dt, _, _, rfl, ht, T.c_Fill, T.n_Fill_value, f2_snd, ?_⟩
    refine ⟨sr, h, a, x, vals, room, g1, ax, rfl, hS, hA, ?_⟩
    rcases q with ⟨er, hc, q⟩ | ⟨_, er, hc, q⟩ | ⟨_, er, q⟩
    · exact .inl ⟨er, hc, fun H1 b1 h1 => q H1 b1 h1⟩
    · exact .inr (.inl ⟨er, hc, q⟩)
    · exact .inr (.inr ⟨er, q⟩)
theorem sc_Copyrun : FnScope ["self", "store"] ["self", "store"] (defScope sCopy_run) := ⟨rfl, rfl, rfl, by decide +kernel, rfl, by decide +kernel, by decide +kernel⟩
theorem m_Copy_run (T : Txt K mg) (GF : Md P w K mg base (L2.CX P w) 5 "Store" "copied" ["self", "to", "source"] (spCopied K)) : Md P w K mg base (L2.CX P w) 6 "Copy" "run" ["self", "store"] (spRun K 2) := by
  obtain ⟨fd, F⟩ := T.d_Copy_run
  refine ⟨_, fd, fokX F sc_Copyrun (fun vs H Q E h => ?_) (fun cdv A outer s H vs Q E hr h => ?_), T.c_Copy, T.m_Copy_run, bnd F fun _ _ _ _ _ _ us hl => match us, hl with | [_, _], _ => rfl⟩
  · obtain ⟨st, s, h, a, b, x, vals, room, g1, g2, ax, bx, rfl, _⟩ := h
    rfl
  · obtain ⟨st, sr, h, a, b, x, vals, room, g1, g2, ax, bx, rfl, ⟨dt, ht⟩, hS, hA, hB, ec, q⟩ := h
    obtain ⟨_, dx, hs, hh⟩ := id hS
    have ht : H st = some (.ins (ga K "Copy") dt (f2 "to" "source" (.ref a) (.ref b))) := ht
    refine ⟨_, pss_one (ps_expr (pe_m (pv 1) GF hr (passes_call (takes_of rfl rfl rfl rfl) (fun _ _ _ _ h => h)) (pa_cons (pe_fld (pv 0) rfl) (pa_cons (pe_fld (pv 0) rfl) pa_nil)))), ?_⟩
    refine ⟨_, rfl, sr, dx, _, rfl, hs, no_held (by decide +kernel), _, rfl, st, _, dt, _, _, rfl, ht, T.c_Copy, T.n_Copy_to, f2_fst (by decide +kernel), _, rfl, st, _, dt, _, _, rfl, ht, T.c_Copy, T.n_Copy_source, f2_snd, ?_⟩
    refine ⟨sr, h, a, b, vals, room, g1, g2, ax, bx, rfl, hS, hA, hB, ec, ?_⟩
    rw [← ec]
    rcases q with ⟨er, hc, q⟩ | ⟨_, er, hc, q⟩ | ⟨_, er, q⟩
    · exact .inl ⟨er, hc, fun H1 b1 h1 => q H1 b1 h1⟩
    · exact .inr (.inl ⟨er, hc, q⟩)
    · exact .inr (.inr ⟨er, q⟩)
theorem sc_Swaprun : FnScope ["self", "store", "first", "second"] ["self", "store"] (defScope sSwap_run) := ⟨rfl, rfl, rfl, by decide +kernel, rfl, by decide +kernel, by decide +kernel⟩
theorem m_Swap_run (T : Txt K mg) (GR : Md P w K mg base (L2.CX P w) 4 "Store" "read" ["self", "view"] (spRead K)) (GP : Md P w K mg base CX0 4 "Store" "put" ["self", "view", "values"] (spPut K)) : Md P w K mg base (L2.CX P w) 6 "Swap" "run" ["self", "store"] (spRun K 3) := by
  obtain ⟨fd, F⟩ := T.d_Swap_run
  refine ⟨_, fd, fokX F sc_Swaprun (fun vs H Q E h => ?_) (fun cdv A outer s H vs Q E hr h => ?_), T.c_Swap, T.m_Swap_run, bnd F fun _ _ _ _ _ _ us hl => match us, hl with | [_, _], _ => rfl⟩
  · obtain ⟨st, s, h, a, b, x, vals, room, g1, g2, ax, bx, rfl, _⟩ := h
    rfl
  · obtain ⟨st, sr, h, a, b, x, vals, room, g1, g2, ax, bx, rfl, ⟨dt, ht⟩, hS, hA, hB, ec, q⟩ := h
    obtain ⟨z0, dx, hs, hh⟩ := id hS
    have ht : H st = some (.ins (ga K "Swap") dt (f2 "one" "other" (.ref a) (.ref b))) := ht
    have hr1 : Room 4 _ := hr.mono (by decide)
    have noR : (putF "held" (V.ref h) []).lookup ("read" : Str) = none := no_held (by decide +kernel)
    have noP : (putF "held" (V.ref h) []).lookup ("put" : Str) = none := no_held (by decide +kernel)
    have f1 : (f2 "one" "other" (.ref a) (.ref b)).lookup ("one" : Str) = some (.ref a) := f2_fst (by decide +kernel)
    have f3 : (f2 "one" "other" (.ref a) (.ref b)).lookup ("other" : Str) = some (.ref b) := f2_snd
    refine ⟨_, pss_cons (ps_set (i := 2) sc_Swaprun.nd rfl (.inl rfl) (pe_m (pv 1) GR hr1 (passes_call (takes_of rfl rfl rfl rfl) (fun _ _ _ _ h => h)) (pa_cons (pe_fld (pv 0) rfl) pa_nil)))
      (pss_cons (ps_set (i := 3) sc_Swaprun.nd rfl (.inl rfl) (pe_m (pv 1) GR hr1 (passes_call (takes_of rfl rfl rfl rfl) (fun _ _ _ _ h => h)) (pa_cons (pe_fld (pv 0) rfl) pa_nil)))
      (pss_cons (ps_expr (pe_m (pv 1) GP hr1 pass0 (pa_cons (pe_fld (pv 0) rfl) (pa_cons (pv 3) pa_nil))))
      (pss_one (ps_expr (pe_m (pv 1) GP hr1 pass0 (pa_cons (pe_fld (pv 0) rfl) (pa_cons (pv 2) pa_nil))))))), ?_⟩
    refine ⟨_, rfl, sr, dx, _, rfl, hs, noR, _, rfl, st, _, dt, _, _, rfl, ht, T.c_Swap, T.n_Swap_one, f1, ?_⟩
    refine ⟨sr, h, a, vals, room, g1, ax, rfl, hS, hA, ?_⟩
    rcases q with ⟨er, hc, q⟩ | ⟨_, er, hc, q⟩ | ⟨_, er, q⟩
    · refine .inl ⟨er, hc, fun H1 p1 s1 n1 h1 => ?_⟩
      refine ⟨_, rfl, sr, dx, _, rfl, s1 _ _ hs, noR, _, rfl, st, _, dt, _, _, rfl, s1 _ _ ht, T.c_Swap, T.n_Swap_other, f3, ?_⟩
      refine ⟨sr, h, b, vals, room, g2, bx, rfl, hS.mono s1, hB.mono s1, .inl ⟨er, by omega, fun H2 p2 s2 n2 h2 => ?_⟩⟩
      have s12 := s1.trans s2
      have n2h : p2 ≠ h := (ne_of_none (s1 _ _ hh) n2).symm
      have n1h : p1 ≠ h := (ne_of_none hh n1).symm
      have lenA := hA.1.len
      have lenB := hB.1.len
      have nsh : sr ≠ h := (ne_li hh hs).symm
      have nth : st ≠ h := (ne_li hh ht).symm
      refine ⟨_, rfl, sr, dx, _, rfl, s12 _ _ hs, noP, _, rfl, st, _, dt, _, _, rfl, s12 _ _ ht, T.c_Swap, T.n_Swap_one, f1, _, rfl, ?_⟩
      refine ⟨sr, h, a, p2, vals, _, room, g1, ax, rfl, hS.mono s12, hA.mono s12, h2, n2h, er, hc, by rw [readV_len]; omega, fun H3 b3 h3 => ?_⟩
      refine ⟨_, rfl, sr, dx, _, rfl, b3 _ _ nsh (s12 _ _ hs), noP, _, rfl, st, _, dt, _, _, rfl, b3 _ _ nth (s12 _ _ ht), T.c_Swap, T.n_Swap_other, f3, _, rfl, ?_⟩
      have eL := writeV_len vals (cellsF g1 ax) (readV vals (cellsF g2 bx))
      refine ⟨sr, h, b, p1, _, _, room, g2, bx, rfl, ⟨by rw [eL]; exact z0, dx, b3 _ _ nsh (s12 _ _ hs), h3⟩, (hB.mono s12).but b3 (s12 _ _ hh) z0.1, b3 _ _ n1h (s2 _ _ h1), n1h, by rw [eL]; exact er, by omega, by rw [readV_len]; omega, fun H4 b4 h4 => ?_⟩
      exact q H4 (((But.of s12).trans b3).trans b4) h4
    · exact .inr (.inl ⟨er, hc, q⟩)
    · exact .inr (.inr ⟨er, q⟩)
theorem sc_Raiserun : FnScope ["self", "store", "first", "second", "one", "other"] ["self", "store"] (defScope sRaise_run) := ⟨rfl, rfl, rfl, by decide +kernel, rfl, by decide +kernel, by decide +kernel⟩
theorem m_Raise_run (T : Txt K mg) (GR : Md P w K mg base (L2.CX P w) 4 "Store" "read" ["self", "view"] (spRead K)) (GP : Md P w K mg base CX0 4 "Store" "put" ["self", "view", "values"] (spPut K)) : Md P w K mg base (L2.CX P w) 6 "Raise" "run" ["self", "store"] (spRun K 4) := by
  obtain ⟨fd, F⟩ := T.d_Raise_run
  refine ⟨_, fd, fokX F sc_Raiserun (fun vs H Q E h => ?_) (fun cdv A outer s H vs Q E hr h => ?_), T.c_Raise, T.m_Raise_run, bnd F fun _ _ _ _ _ _ us hl => match us, hl with | [_, _], _ => rfl⟩
  · obtain ⟨st, s, h, a, b, x, vals, room, g1, g2, ax, bx, rfl, _⟩ := h
    rfl
  · obtain ⟨st, sr, h, a, b, x, vals, room, g1, g2, ax, bx, rfl, ⟨dt, ht⟩, hS, hA, hB, ec, q⟩ := h
    obtain ⟨z0, dx, hs, hh⟩ := id hS
    have ht : H st = some (.ins (ga K "Raise") dt (f2 "to" "source" (.ref a) (.ref b))) := ht
    have hr1 : Room 4 _ := hr.mono (by decide)
    have noR : (putF "held" (V.ref h) []).lookup ("read" : Str) = none := no_held (by decide +kernel)
    have noP : (putF "held" (V.ref h) []).lookup ("put" : Str) = none := no_held (by decide +kernel)
    have f1 : (f2 "to" "source" (.ref a) (.ref b)).lookup ("to" : Str) = some (.ref a) := f2_fst (by decide +kernel)
    have f3 : (f2 "to" "source" (.ref a) (.ref b)).lookup ("source" : Str) = some (.ref b) := f2_snd
    refine ⟨_, pss_cons (ps_set (i := 2) sc_Raiserun.nd rfl (.inl rfl) (pe_m (pv 1) GR hr1 (passes_call (takes_of rfl rfl rfl rfl) (fun _ _ _ _ h => h)) (pa_cons (pe_fld (pv 0) rfl) pa_nil)))
      (pss_cons (ps_set (i := 3) sc_Raiserun.nd rfl (.inl rfl) (pe_m (pv 1) GR hr1 (passes_call (takes_of rfl rfl rfl rfl) (fun _ _ _ _ h => h)) (pa_cons (pe_fld (pv 0) rfl) pa_nil)))
      (pss_one (ps_expr (pe_m (pv 1) GP hr1 pass0 (pa_cons (pe_fld (pv 0) rfl) (pa_cons
        (pe_lc (own := [("one", 4), ("other", 5)]) (g := gTup K 2 (gCons (gName 4) (gCons (gName 5) gNil))) (tt := tYes) (te := tOp (rI0 fun i j => .int (i + j)) (tVar 4) (tVar 5)) rfl sc_Raiserun.nd (pi_zip (by rfl) T.f_zip (pa_cons (pv 2) (pa_cons (pv 3) pa_nil)))
          (blkOk_by (N := ["self", "store", "first", "second", "one", "other"]) (sc := defScope sRaise_run) (by decide +kernel))
          (fun _ _ _ _ _ => by exact pg_tup rfl (pgs_cons (pg_name (i := 4) sc_Raiserun.nd rfl (.inl rfl)) (pgs_cons (pg_name (i := 5) sc_Raiserun.nd rfl (.inl rfl)) pgs_nil))) (fun _ _ _ _ _ => pts_nil) (fun _ _ _ _ _ => by exact pe_op op_add (pv 4) (pv 5))) pa_nil)))))), ?_⟩
    refine ⟨_, rfl, sr, dx, _, rfl, hs, noR, _, rfl, st, _, dt, _, _, rfl, ht, T.c_Raise, T.n_Raise_to, f1, ?_⟩
    refine ⟨sr, h, a, vals, room, g1, ax, rfl, hS, hA, ?_⟩
    rcases q with ⟨er, hc, q⟩ | ⟨_, er, hc, q⟩ | ⟨_, er, q⟩
    · refine .inl ⟨er, hc, fun H1 p1 s1 n1 h1 => ?_⟩
      refine ⟨_, rfl, sr, dx, _, rfl, s1 _ _ hs, noR, _, rfl, st, _, dt, _, _, rfl, s1 _ _ ht, T.c_Raise, T.n_Raise_source, f3, ?_⟩
      refine ⟨sr, h, b, vals, room, g2, bx, rfl, hS.mono s1, hB.mono s1, .inl ⟨er, by omega, fun H2 p2 s2 n2 h2 => ?_⟩⟩
      have s12 := s1.trans s2
      have lenA := hA.1.len
      have lenB := hB.1.len
      refine ⟨_, rfl, sr, dx, _, rfl, s12 _ _ hs, noP, _, rfl, st, _, dt, _, _, rfl, s12 _ _ ht, T.c_Raise, T.n_Raise_to, f1, ?_⟩
      refine ⟨_, rfl, _, rfl, p1, p2, _, _, rfl, sq (s2 _ _ h1), sq h2, fun D hD => ?_⟩
      refine lc_zipL (K := K) (a := p1) (b := p2) (xs := (readV vals (cellsF g1 ax)).map V.int) (ys := (readV vals (cellsF g2 bx)).map V.int) (by rw [List.length_map, List.length_map, readV_len, readV_len]; omega)
        (fun i H' => Same H2 H' ∧ H' D = some (.lst (((((readV vals (cellsF g1 ax)).zip (readV vals (cellsF g2 bx))).take i).map fun p => p.1 + p.2).map V.int))) ⟨same_new hD, upd_same⟩ (fun i H' ⟨s3, _⟩ => ⟨sq (s3 _ _ (s2 _ _ h1)), sq (s3 _ _ h2)⟩) ?_ ?_
      · rintro i y z t H' hy hz ⟨s3, h3⟩ nt
        obtain ⟨m, hm, rfl⟩ := map_at hy
        obtain ⟨n, hn, rfl⟩ := map_at hz
        have hzip := zip_at hm hn
        have ntD : D ≠ t := ne_of_none h3 nt
        refine ⟨t, _, rfl, .inl (.inl upd_same), rfl, _, _, rfl, _, _, rfl, rfl, rfl, _, rfl, _, rfl, _, _, rfl, rfl, _, same_new nt _ _ h3, ?_, same_mut (s3.trans (same_new nt)) hD, ?_⟩
        · have := at_lt hm
          rw [readV_len] at this
          exact smallt (m := 4097) (by rw [List.length_map, List.length_map, List.length_take]; omega)
        · rw [upd_same, take_more hzip, List.map_append, List.map_append]
          rfl
      · rintro H3 ⟨s3, h3⟩
        rw [List.length_map, List.take_of_length_le (by rw [List.length_zip]; exact Nat.min_le_left _ _)] at h3
        have s13 := s12.trans s3
        have nDh : D ≠ h := (ne_of_none (s12 _ _ hh) hD).symm
        refine ⟨sr, h, a, D, vals, _, room, g1, ax, rfl, hS.mono s13, hA.mono s13, h3, nDh, er, hc, ?_, fun H4 b4 h4 => ?_⟩
        · rw [List.length_map, List.length_zip, readV_len, readV_len]
          omega
        · refine q H4 ((But.of s13).trans b4) ?_
          rw [h4]
          show some (HO.lst ((writeV vals (cellsF g1 ax) _).map V.int)) = some (HO.lst ((writeV vals (cellsF g1 ax) (List.zipWith (· + ·) (readV vals (cellsF g1 ax)) (readV vals (cellsF g2 bx)))).map V.int))
          rw [zip_add]
    · exact .inr (.inl ⟨er, hc, q⟩)
    · exact .inr (.inr ⟨er, q⟩)
end
end K81
/-! The law's own defs about refusals. -/
namespace K81
open PySem PySem.Spec PyProof.Rows L2 He
/-! ### two rules more -/
/-- C() of a class that has object's __init__ -/
theorem pe_make00 {X : Cx} {C : Addr} {x : Str} {p pos : Pos} (hM : PySem.W.makesIn X.K C = true) (hI : PySem.W.findIn X.K (.ref C) "__init__" = some (some (.builtin "object.__init__"))) (hk : PySem.W.keepIn X.K (.ref C) = true) (hg : Gl X x) (hm : X.mg x = some (.ref C))
    (hdb : (x == ("__debug__" : Str)) = false := by decide) :
    PE X (.Call (.Name x p) [] [] pos) (fun _ H Q => ∀ x dx, H x = none → H dx = none → dx ≠ x → Q (.ref x) (upd (upd H dx (.own x)) x (.ins C dx []))) := by
  refine ⟨fun pins s σ H Q I h => ?_⟩
  refine wpAny_Call_Name_kw (ld_glob I hg hm ?_ hdb)
  refine PySem.W.callWith_K0 I.kIn hk ?_
  show wpAny _ _ (call (.ref C) []) _ _ _
  have hq := h (s.heap.objs.size + 1) s.heap.objs.size (I.hok.fresh (Nat.le_succ _)) (I.hok.fresh (Nat.le_refl _)) (Nat.ne_of_lt (Nat.lt_succ_self _))
  have I2 := Inv.made (C := C) I
  have KX := I.kIn
  obtain ⟨hh, g, d, t, os⟩ := s
  have Y := PySem.W.makes_of (M := model X.prog X.w) KX hM
  refine wpAny_call (PySem.W.make_core Y (PySem.W.looks_findIn KX hI) (fun self => PySem.W.Looks.of_pure (PySem.W.oi_bind self)) (.inr ⟨rfl, rfl⟩) ?_)
  have e2 : ((hh.push PySem.W.emptyDict).push (PySem.W.instObj C hh.objs.size)).get? (hh.objs.size + 1) = some (PySem.W.instObj C hh.objs.size) := by
    have := Heap.get?_push_size (hh.push PySem.W.emptyDict) (o := PySem.W.instObj C hh.objs.size) rfl
    rwa [Heap.size_push] at this
  have t1 : PySem.W.Looks (model X.prog X.w) ((hh.push PySem.W.emptyDict).push (PySem.W.instObj C hh.objs.size)) (typeOf (.ref (hh.objs.size + 1))) (.ref C) := (PySem.W.Looks.ld e2).andThen .now
  have t2 : PySem.W.Looks (model X.prog X.w) ((hh.push PySem.W.emptyDict).push (PySem.W.instObj C hh.objs.size)) (isInstance (.ref (hh.objs.size + 1)) (.type "object")) true := t1.andThen (Y.top.keeps fun b o e => Heap.get?_push_of_some _ (Heap.get?_push_of_some _ e))
  refine codeAny_call_builtin PySem.W.oi_plain PySem.W.entry_oi (@PySem.W.check_slot (model X.prog X.w) _ _ _ "object.__init__" "object" "__init__" (.ref (hh.objs.size + 1)) [] [] _ PySem.W.oi_kind PySem.W.oi_split t2 (PySem.W.oi_args (.ref (hh.objs.size + 1))) ?_)
  rw [PySem.W.oi_run]
  exact wpAny_pure (And.intro rfl ⟨.ref (hh.objs.size + 1), _, I2, rfl, hq⟩)
theorem countP_eqU {x : V} : ∀ {xs : List V} {us : List Value}, Vals xs us → xs.all flatV = true → us.countP (eqU x) = xs.countP fun y => eqV y x
  | _, _, .nil, _ => rfl
  | y :: xs, u :: us, .cons r t, f => by
    rw [List.all_cons, Bool.and_eq_true] at f
    rw [List.countP_cons, List.countP_cons, eqU_of r f.1, countP_eqU t f.2]
/-- xs.count(y) of flat items -/
def rCntV (K : PySem.W.Frag) : V → List V → Hp → VK → Prop := fun x xs H Q => ∃ (p : Addr) (ys : List V) (y : V) (n : Nat), x = .ref p ∧ xs = [y] ∧ SqL K H p ys ∧ flatV y = true ∧ ys.all flatV = true ∧ (ys.countP fun z => eqV z y) = n ∧ Q (.int (n : Int)) H
theorem mt_countV {X : Cx} : MtR X "list.count" (rCntV X.K) := by
  intro pins s σ H x xs v us Q I rx rxs h
  obtain ⟨p, ys, y, n, rfl, rfl, hs, fy, fys, en, q⟩ := h
  cases rx
  cases rxs with
  | cons ry rt =>
    rename_i uy ut
    cases rt
    obtain ⟨its, rv, ⟨⟨cls, dd, data, sl⟩, m, ho, hc, hdn, hd⟩, hlen⟩ := I.list hs
    simp only at hc hd
    subst hc hd
    refine call_meets PySem.F.slot_list_count ⟨_, ho, rfl⟩ PySem.F.entry_list_count (PySem.F.args_list_count_2 _ _)
      (SeqAt.list_countAt p its.toArray m dd sl uy (eqU y)) ⟨ho, fun u' hu' => mem_eqAt ry fy rv fys u' (by simpa using hu'), ?_⟩
    have ec : its.toArray.toList.countP (eqU y) = n := by
      rw [← en]
      exact countP_eqU rv fys
    refine ⟨.int (n : Int), H, I.tok _, ⟨s.toks, ?_⟩, q⟩
    show Value.int ((its.toArray.toList.countP (eqU y) : Nat) : Int) s.toks = Value.int (n : Int) s.toks
    rw [ec]
theorem same_two {H : Hp} {x dx : Addr} {o1 o2 : HO} (nx : H x = none) (nd : H dx = none) : Same H (upd (upd H dx o1) x o2) := fun b u e => by
  rw [upd_ne (ne_of_none e nx), upd_ne (ne_of_none e nd)]
  exact e
theorem same_made {H H' : Hp} {x dx : Addr} {o1 o2 o : HO} (nx : H x = none) (nd : H dx = none) (s : Same (upd (upd H dx o1) x o2) H') : Same H (upd H' x o) := fun b u e => by
  rw [upd_ne (ne_of_none e nx)]
  exact s _ _ (same_two nx nd _ _ e)
section
variable {P : Program} {w : World} {K : PySem.W.Frag} {mg : Str → Option Value} {base : Heap}
/-! ### a statement is made -/
theorem sc_made : FnScope ["_law_way", "_law_one", "_law_other", "_law_value"] ["_law_way", "_law_one", "_law_other", "_law_value"] (defScope s_lmade) := ⟨rfl, rfl, rfl, by decide +kernel, rfl, by decide +kernel, by decide +kernel⟩
theorem g_made (T : Txt K mg) (KF : Kl P w K mg base CX0 1 "Fill" ["self", "to", "value"] (spFillInit K)) (KC : Kl P w K mg base (L2.CX P w) 4 "Copy" ["self", "to", "source"] (spInit2 K "Copy" "to" "source"))
    (KS : Kl P w K mg base (L2.CX P w) 4 "Swap" ["self", "one", "other"] (spInit2 K "Swap" "one" "other")) (KR : Kl P w K mg base (L2.CX P w) 4 "Raise" ["self", "to", "source"] (spInit2 K "Raise" "to" "source")) :
    Gd P w K mg base (L2.CX P w) 6 "_law_made" ["_law_way", "_law_one", "_law_other", "_law_value"] (spMade K) := by
  obtain ⟨fd, F⟩ := T.d__law_made
  refine ⟨_, fd, fokX F sc_made (fun vs H Q E h => ?_) (fun cdv A outer s H vs Q E hr h => ?_), T.g__law_made, F.kp, bnd F fun _ _ _ _ _ _ us hl => match us, hl with | [_, _, _, _], _ => rfl⟩
  · obtain ⟨way, a, b, x, r1, r2, g1, g2, ax, bx, rfl, _⟩ := h
    rfl
  · obtain ⟨way, a, b, x, r1, r2, g1, g2, ax, bx, rfl, hw, hA, hB, q⟩ := h
    have hr2 : Room 2 _ := hr.mono (by decide)
    refine ⟨_, pss_cons (ps_if (pt_cmpR op_eq (pv 0) pe_int (nomark _)) (pss_one (ps_ret (pe_make00 T.ext.sM T.ext.sI T.ext.sK (by rfl) T.g_Statement))) pss_nil)
      (pss_cons (ps_if (pt_cmpR op_eq (pv 0) pe_int (nomark _)) (pss_one (ps_ret (pe_k KF hr2 pass0 (pa_cons (pv 1) (pa_cons (pv 3) pa_nil))))) pss_nil)
      (pss_one (ps_ret (pe_ix ix_list (pe_lst (pa_cons (pe_k KC hr (passes_call (takes_of rfl rfl rfl rfl) (fun _ _ _ _ h => h)) (pa_cons (pv 1) (pa_cons (pv 2) pa_nil)))
        (pa_cons (pe_k KS hr (passes_call (takes_of rfl rfl rfl rfl) (fun _ _ _ _ h => h)) (pa_cons (pv 1) (pa_cons (pv 2) pa_nil)))
        (pa_cons (pe_k KR hr (passes_call (takes_of rfl rfl rfl rfl) (fun _ _ _ _ h => h)) (pa_cons (pv 1) (pa_cons (pv 2) pa_nil))) pa_nil)))) (pe_op op_sub (pv 0) pe_int) (fun _ _ => rfl))))), ?_⟩
    refine ⟨_, rfl, rfl, _, rfl, ?_⟩
    have w5 : way = 0 ∨ way = 1 ∨ (2 ≤ way ∧ (way = 2 ∨ way = 3 ∨ way = 4)) := by omega
    rcases w5 with rfl | rfl | ⟨h2, w3⟩
    · refine iteT (fun y dy ny nd nyd => ?_)
      rcases q with ⟨er, ec, q⟩ | ⟨hz, _⟩ | ⟨hz, _⟩
      · exact q _ y (same_two ny nd) ny ⟨dy, upd_same⟩
      · exact absurd hz (by decide)
      · exact absurd hz (by decide)
    · refine iteF ⟨_, rfl, rfl, _, rfl, iteT ?_⟩
      refine ⟨_, rfl, _, rfl, fun y dy ny nd nyd => ?_⟩
      refine ⟨y, dy, a, x, rfl, upd_same, rfl, ?_⟩
      rcases q with ⟨er, ec, q⟩ | ⟨hz, _⟩ | ⟨hz, _⟩
      · exact q _ y (same_made ny nd (Same.refl _)) ny ⟨dy, upd_same⟩
      · exact absurd hz (by decide)
      · exact absurd hz (by decide)
    · have n0 : decide (V.int (way : Int) = V.int 0) = false := decide_eq_false fun z => by
        have := V.int.inj z
        omega
      have n1 : decide (V.int (way : Int) = V.int 1) = false := decide_eq_false fun z => by
        have := V.int.inj z
        omega
      rw [n0]
      refine iteF ⟨_, rfl, rfl, _, rfl, ?_⟩
      rw [n1]
      refine iteF ?_
      -- Copy(..)
      refine ⟨_, rfl, _, rfl, fun y1 d1 ny1 nd1 nyd1 => ?_⟩
      have sA := same_two (o1 := .own y1) (o2 := .ins (ga K "Copy") d1 []) ny1 nd1
      refine ⟨y1, d1, a, b, r1, r2, g1, g2, ax, bx, rfl, upd_same, hA.mono sA, hB.mono sA, ?_⟩
      rcases q with ⟨er, ec, q⟩ | ⟨_, er, q⟩ | ⟨_, er, ec, q⟩
      · refine .inl ⟨er, ec, fun H1 s1 => ⟨rfl, ?_⟩⟩
        generalize hK1 : upd H1 y1 (.ins (ga K "Copy") d1 (f2 "to" "source" (.ref a) (.ref b))) = J1
        have S1 : Same H J1 := by rw [← hK1]; exact same_made ny1 nd1 s1
        have E1 : J1 y1 = some (.ins (ga K "Copy") d1 (f2 "to" "source" (.ref a) (.ref b))) := by rw [← hK1]; exact upd_same
        -- Swap(..)
        refine ⟨_, rfl, _, rfl, fun y2 d2 ny2 nd2 nyd2 => ?_⟩
        have sB := same_two (o1 := .own y2) (o2 := .ins (ga K "Swap") d2 []) ny2 nd2
        refine ⟨y2, d2, a, b, r1, r2, g1, g2, ax, bx, rfl, upd_same, (hA.mono S1).mono sB, (hB.mono S1).mono sB, .inl ⟨er, ec, fun H2 s2 => ⟨rfl, ?_⟩⟩⟩
        generalize hK2 : upd H2 y2 (.ins (ga K "Swap") d2 (f2 "one" "other" (.ref a) (.ref b))) = J2
        have S2 : Same J1 J2 := by rw [← hK2]; exact same_made ny2 nd2 s2
        have E2 : J2 y2 = some (.ins (ga K "Swap") d2 (f2 "one" "other" (.ref a) (.ref b))) := by rw [← hK2]; exact upd_same
        -- Raise(..)
        refine ⟨_, rfl, _, rfl, fun y3 d3 ny3 nd3 nyd3 => ?_⟩
        have sC := same_two (o1 := .own y3) (o2 := .ins (ga K "Raise") d3 []) ny3 nd3
        refine ⟨y3, d3, a, b, r1, r2, g1, g2, ax, bx, rfl, upd_same, ((hA.mono S1).mono S2).mono sC, ((hB.mono S1).mono S2).mono sC, .inl ⟨er, ec, fun H3 s3 => ⟨rfl, ?_⟩⟩⟩
        generalize hK3 : upd H3 y3 (.ins (ga K "Raise") d3 (f2 "to" "source" (.ref a) (.ref b))) = J3
        have S3 : Same J2 J3 := by rw [← hK3]; exact same_made ny3 nd3 s3
        have E3 : J3 y3 = some (.ins (ga K "Raise") d3 (f2 "to" "source" (.ref a) (.ref b))) := by rw [← hK3]; exact upd_same
        refine ⟨(by show 3 ≤ sizeLine; decide), fun p np => ?_⟩
        have S4 : Same J3 (upd J3 p (.lst [.ref y1, .ref y2, .ref y3])) := same_new np
        have S : Same H (upd J3 p (.lst [.ref y1, .ref y2, .ref y3])) := ((S1.trans S2).trans S3).trans S4
        rcases w3 with rfl | rfl | rfl
        · exact ⟨_, rfl, _, _, rfl, rfl, p, _, _, _, rfl, rfl, sq upd_same, rfl, q _ y1 S ny1 ⟨d1, S4 _ _ (S3 _ _ (S2 _ _ E1))⟩⟩
        · exact ⟨_, rfl, _, _, rfl, rfl, p, _, _, _, rfl, rfl, sq upd_same, rfl, q _ y2 S (S1.free ny2) ⟨d2, S4 _ _ (S3 _ _ E2)⟩⟩
        · exact ⟨_, rfl, _, _, rfl, rfl, p, _, _, _, rfl, rfl, sq upd_same, rfl, q _ y3 S ((S1.trans S2).free ny3) ⟨d3, S4 _ _ E3⟩⟩
      · exact .inr (.inl ⟨er, q.mono sA⟩)
      · exact .inr (.inr ⟨er, ec, q.mono sA⟩)
/-! ### the word of a refusal -/
def spWord (K : PySem.W.Frag) : Addr → Value → Option Addr → Sp := fun a cls d vs H Q _ => ∃ (k : Kd) (n : Int), vs = [.ref a] ∧ cls = .ref (ga K k.nm) ∧ DictAt H k n d ∧ ∀ H' t, Same H H' → H' t = some (.tup [.str k.word, .int (k.num n)]) → Q (.ref t) H'
def WordOk (P : Program) (w : World) (K : PySem.W.Frag) (mg : Str → Option Value) (base : Heap) : Prop := ∃ f fd, FnPin P w K mg base 1 f fd ["_law_e"] (spWord K) ∧ mg "_law_word" = some (.ref f) ∧ PySem.W.keepIn K (.ref f) = true ∧ Binds K fd ["_law_e"] []
theorem DictAt.or {H : Hp} {k : Kd} {n : Int} {d : Option Addr} (h : DictAt H k n d) : d = none ∨ ∃ dd fs, d = some dd ∧ H dd = some (.xd fs) := by
  cases k with
  | many =>
    obtain ⟨dd, a, b⟩ := h
    exact .inr ⟨dd, _, a, b⟩
  | _ => exact .inl h
theorem sc_word : FnScope ["_law_e", "_law_some"] ["_law_e"] (defScope s_lword) := ⟨rfl, rfl, rfl, by decide +kernel, rfl, by decide +kernel, by decide +kernel⟩
theorem word_ok (T : Txt K mg) : WordOk P w K mg base := by
  obtain ⟨fd, F⟩ := T.d__law_word
  have bW : Binds K fd ["_law_e"] [] := bnd F fun _ _ _ _ _ _ us hl => match us, hl with | [_], _ => rfl
  have kp := F.kp
  obtain ⟨oc, od, dV, kV, doc, pm, an, cdv, ct, osl, rfl, lk, hcd, _, _⟩ := F.ex
  refine ⟨_, _, fn_pin lk hcd sc_word (fun a c d vs H Q E h => ?_) (fun A outer s H vs Q E p cls d hr hz hf h => ?_), T.g__law_word, kp, bW⟩
  · obtain ⟨k, n, rfl, _⟩ := h
    rfl
  · obtain ⟨a, oe⟩ := p
    obtain ⟨k, n, rfl, rfl, hd, q⟩ := h
    have hz : Zc (.ref (ga K k.nm)) d oe := hz
    have hf : ∃ vs, oe.data = .fields vs := hf
    cases k
    · have dor := hd.or
      refine ⟨_, pss_cons (ps_set (i := 1) sc_word.nd rfl (.inl rfl) (pe_lst (pa_cons (pe_callB (call_isP (T.ext.ec .pair) List.mem_cons_self hz hf) (by rfl) T.f_isinstance (by decide +kernel) (pa_cons (pv 0) (pa_cons (pe_glob (v := .ref (ga K "NoPair")) (by rfl) T.g_NoPair rfl) pa_nil))) (pa_cons (pe_callB (call_isP (T.ext.ec .pair) List.mem_cons_self hz hf) (by rfl) T.f_isinstance (by decide +kernel) (pa_cons (pv 0) (pa_cons (pe_glob (v := .ref (ga K "NoCount")) (by rfl) T.g_NoCount rfl) pa_nil)))
        (pa_cons (pe_callB (call_isP (T.ext.ec .pair) List.mem_cons_self hz hf) (by rfl) T.f_isinstance (by decide +kernel) (pa_cons (pv 0) (pa_cons (pe_glob (v := .ref (ga K "NoView")) (by rfl) T.g_NoView rfl) pa_nil))) (pa_cons (pe_callB (call_isP (T.ext.ec .pair) List.mem_cons_self hz hf) (by rfl) T.f_isinstance (by decide +kernel) (pa_cons (pv 0) (pa_cons (pe_glob (v := .ref (ga K "TooMany")) (by rfl) T.g_TooMany rfl) pa_nil))) pa_nil))))))
        (pss_cons (ps_if (PW.pt (pw_or (pt_cmpR op_ne (pe_bm PySem.F.plainAttrs_list PySem.F.slot_list_count PySem.F.type_list_count mt_countV (pv 1) (pa_cons pe_bl pa_nil)) pe_int (nomark _))
          (pw_or1 (pt_not (pt_val (pe_callB (call_isP (T.ext.ec .pair) List.mem_cons_self hz hf) (by rfl) T.f_isinstance (by decide +kernel) (pa_cons (pv 0) (pa_cons (pe_bltn (v := .ty "ValueError") (by rfl) T.f_ValueError (by decide +kernel) rfl) pa_nil)))))))) pss_never pss_nil)
        (pss_cons (ps_if (pt_val (pe_ix ix_list (pv 1) pe_int (fun _ _ => rfl))) pss_never pss_nil)
        (pss_one (ps_ret (pe_tup (pa_cons (pe_ix ix_list (pe_lst (pa_cons pe_str (pa_cons pe_str (pa_cons pe_str pa_nil)))) (pe_bm PySem.F.plainAttrs_list PySem.F.slot_list_index PySem.F.type_list_index mt_index (pv 1) (pa_cons pe_bl pa_nil)) (fun _ _ => rfl)) (pa_cons pe_int pa_nil))))))), ?_⟩
      refine ⟨_, rfl, _, _, _, rfl, dor, (fun u r => r), T.ext.kk .pair .pair, _, rfl, _, _, _, rfl, dor, (fun u r => r), T.ext.kk .pair .count, _, rfl, _, _, _, rfl, dor, (fun u r => r), T.ext.kk .pair .view, _, rfl, _, _, _, rfl, dor, (fun u r => r), T.ext.kk .pair .many, (by show 4 ≤ sizeLine; decide), fun ls nls => ?_⟩
      have s1 : Same H (upd H ls (.lst [.bl (decide (Kd.pair = Kd.pair)), .bl (decide (Kd.pair = Kd.count)), .bl (decide (Kd.pair = Kd.view)), .bl (decide (Kd.pair = Kd.many))])) := same_new nls
      refine ⟨_, rfl, .inl ⟨rfl, _, sq upd_same⟩, ls, _, _, 1, rfl, rfl, sq upd_same, rfl, rfl, rfl, rfl, _, rfl, iteF ?_⟩
      refine ⟨_, rfl, _, _, _, rfl, (hd.mono s1).or, (fun u r => r), T.ext.kv .pair, _, rfl, iteF ?_⟩
      refine ⟨_, rfl, ls, _, _, _, rfl, rfl, sq upd_same, rfl, false, rfl, iteF ?_⟩
      refine ⟨(by show 3 ≤ sizeLine; decide), fun l2 nl2 => ?_⟩
      refine ⟨_, rfl, .inl ⟨rfl, _, sq (same_new nl2 _ _ upd_same)⟩, ls, _, _, 0, .bl true, rfl, rfl, sq (same_new nl2 _ _ upd_same), rfl, rfl, rfl, rfl, fun m z hm hz' => ?_, ?_⟩
      · exact absurd hm (Nat.not_lt_zero _)
      · refine ⟨l2, _, _, _, rfl, rfl, sq upd_same, rfl, (by show 2 ≤ sizeLine; decide), fun t nt => ?_⟩
        exact q _ t ((s1.trans (same_new nl2)).trans (same_new nt)) upd_same
    · have dor := hd.or
      refine ⟨_, pss_cons (ps_set (i := 1) sc_word.nd rfl (.inl rfl) (pe_lst (pa_cons (pe_callB (call_isP (T.ext.ec .count) List.mem_cons_self hz hf) (by rfl) T.f_isinstance (by decide +kernel) (pa_cons (pv 0) (pa_cons (pe_glob (v := .ref (ga K "NoPair")) (by rfl) T.g_NoPair rfl) pa_nil))) (pa_cons (pe_callB (call_isP (T.ext.ec .count) List.mem_cons_self hz hf) (by rfl) T.f_isinstance (by decide +kernel) (pa_cons (pv 0) (pa_cons (pe_glob (v := .ref (ga K "NoCount")) (by rfl) T.g_NoCount rfl) pa_nil)))
        (pa_cons (pe_callB (call_isP (T.ext.ec .count) List.mem_cons_self hz hf) (by rfl) T.f_isinstance (by decide +kernel) (pa_cons (pv 0) (pa_cons (pe_glob (v := .ref (ga K "NoView")) (by rfl) T.g_NoView rfl) pa_nil))) (pa_cons (pe_callB (call_isP (T.ext.ec .count) List.mem_cons_self hz hf) (by rfl) T.f_isinstance (by decide +kernel) (pa_cons (pv 0) (pa_cons (pe_glob (v := .ref (ga K "TooMany")) (by rfl) T.g_TooMany rfl) pa_nil))) pa_nil))))))
        (pss_cons (ps_if (PW.pt (pw_or (pt_cmpR op_ne (pe_bm PySem.F.plainAttrs_list PySem.F.slot_list_count PySem.F.type_list_count mt_countV (pv 1) (pa_cons pe_bl pa_nil)) pe_int (nomark _))
          (pw_or1 (pt_not (pt_val (pe_callB (call_isP (T.ext.ec .count) List.mem_cons_self hz hf) (by rfl) T.f_isinstance (by decide +kernel) (pa_cons (pv 0) (pa_cons (pe_bltn (v := .ty "ValueError") (by rfl) T.f_ValueError (by decide +kernel) rfl) pa_nil)))))))) pss_never pss_nil)
        (pss_cons (ps_if (pt_val (pe_ix ix_list (pv 1) pe_int (fun _ _ => rfl))) pss_never pss_nil)
        (pss_one (ps_ret (pe_tup (pa_cons (pe_ix ix_list (pe_lst (pa_cons pe_str (pa_cons pe_str (pa_cons pe_str pa_nil)))) (pe_bm PySem.F.plainAttrs_list PySem.F.slot_list_index PySem.F.type_list_index mt_index (pv 1) (pa_cons pe_bl pa_nil)) (fun _ _ => rfl)) (pa_cons pe_int pa_nil))))))), ?_⟩
      refine ⟨_, rfl, _, _, _, rfl, dor, (fun u r => r), T.ext.kk .count .pair, _, rfl, _, _, _, rfl, dor, (fun u r => r), T.ext.kk .count .count, _, rfl, _, _, _, rfl, dor, (fun u r => r), T.ext.kk .count .view, _, rfl, _, _, _, rfl, dor, (fun u r => r), T.ext.kk .count .many, (by show 4 ≤ sizeLine; decide), fun ls nls => ?_⟩
      have s1 : Same H (upd H ls (.lst [.bl (decide (Kd.count = Kd.pair)), .bl (decide (Kd.count = Kd.count)), .bl (decide (Kd.count = Kd.view)), .bl (decide (Kd.count = Kd.many))])) := same_new nls
      refine ⟨_, rfl, .inl ⟨rfl, _, sq upd_same⟩, ls, _, _, 1, rfl, rfl, sq upd_same, rfl, rfl, rfl, rfl, _, rfl, iteF ?_⟩
      refine ⟨_, rfl, _, _, _, rfl, (hd.mono s1).or, (fun u r => r), T.ext.kv .count, _, rfl, iteF ?_⟩
      refine ⟨_, rfl, ls, _, _, _, rfl, rfl, sq upd_same, rfl, false, rfl, iteF ?_⟩
      refine ⟨(by show 3 ≤ sizeLine; decide), fun l2 nl2 => ?_⟩
      refine ⟨_, rfl, .inl ⟨rfl, _, sq (same_new nl2 _ _ upd_same)⟩, ls, _, _, 1, .bl true, rfl, rfl, sq (same_new nl2 _ _ upd_same), rfl, rfl, rfl, rfl, fun m z hm hz' => ?_, ?_⟩
      · have e0 : m = 0 := by omega
        subst e0
        have e1 := Option.some.inj hz'
        rw [← e1]
        rfl
      · refine ⟨l2, _, _, _, rfl, rfl, sq upd_same, rfl, (by show 2 ≤ sizeLine; decide), fun t nt => ?_⟩
        exact q _ t ((s1.trans (same_new nl2)).trans (same_new nt)) upd_same
    · have dor := hd.or
      refine ⟨_, pss_cons (ps_set (i := 1) sc_word.nd rfl (.inl rfl) (pe_lst (pa_cons (pe_callB (call_isP (T.ext.ec .view) List.mem_cons_self hz hf) (by rfl) T.f_isinstance (by decide +kernel) (pa_cons (pv 0) (pa_cons (pe_glob (v := .ref (ga K "NoPair")) (by rfl) T.g_NoPair rfl) pa_nil))) (pa_cons (pe_callB (call_isP (T.ext.ec .view) List.mem_cons_self hz hf) (by rfl) T.f_isinstance (by decide +kernel) (pa_cons (pv 0) (pa_cons (pe_glob (v := .ref (ga K "NoCount")) (by rfl) T.g_NoCount rfl) pa_nil)))
        (pa_cons (pe_callB (call_isP (T.ext.ec .view) List.mem_cons_self hz hf) (by rfl) T.f_isinstance (by decide +kernel) (pa_cons (pv 0) (pa_cons (pe_glob (v := .ref (ga K "NoView")) (by rfl) T.g_NoView rfl) pa_nil))) (pa_cons (pe_callB (call_isP (T.ext.ec .view) List.mem_cons_self hz hf) (by rfl) T.f_isinstance (by decide +kernel) (pa_cons (pv 0) (pa_cons (pe_glob (v := .ref (ga K "TooMany")) (by rfl) T.g_TooMany rfl) pa_nil))) pa_nil))))))
        (pss_cons (ps_if (PW.pt (pw_or (pt_cmpR op_ne (pe_bm PySem.F.plainAttrs_list PySem.F.slot_list_count PySem.F.type_list_count mt_countV (pv 1) (pa_cons pe_bl pa_nil)) pe_int (nomark _))
          (pw_or1 (pt_not (pt_val (pe_callB (call_isP (T.ext.ec .view) List.mem_cons_self hz hf) (by rfl) T.f_isinstance (by decide +kernel) (pa_cons (pv 0) (pa_cons (pe_bltn (v := .ty "ValueError") (by rfl) T.f_ValueError (by decide +kernel) rfl) pa_nil)))))))) pss_never pss_nil)
        (pss_cons (ps_if (pt_val (pe_ix ix_list (pv 1) pe_int (fun _ _ => rfl))) pss_never pss_nil)
        (pss_one (ps_ret (pe_tup (pa_cons (pe_ix ix_list (pe_lst (pa_cons pe_str (pa_cons pe_str (pa_cons pe_str pa_nil)))) (pe_bm PySem.F.plainAttrs_list PySem.F.slot_list_index PySem.F.type_list_index mt_index (pv 1) (pa_cons pe_bl pa_nil)) (fun _ _ => rfl)) (pa_cons pe_int pa_nil))))))), ?_⟩
      refine ⟨_, rfl, _, _, _, rfl, dor, (fun u r => r), T.ext.kk .view .pair, _, rfl, _, _, _, rfl, dor, (fun u r => r), T.ext.kk .view .count, _, rfl, _, _, _, rfl, dor, (fun u r => r), T.ext.kk .view .view, _, rfl, _, _, _, rfl, dor, (fun u r => r), T.ext.kk .view .many, (by show 4 ≤ sizeLine; decide), fun ls nls => ?_⟩
      have s1 : Same H (upd H ls (.lst [.bl (decide (Kd.view = Kd.pair)), .bl (decide (Kd.view = Kd.count)), .bl (decide (Kd.view = Kd.view)), .bl (decide (Kd.view = Kd.many))])) := same_new nls
      refine ⟨_, rfl, .inl ⟨rfl, _, sq upd_same⟩, ls, _, _, 1, rfl, rfl, sq upd_same, rfl, rfl, rfl, rfl, _, rfl, iteF ?_⟩
      refine ⟨_, rfl, _, _, _, rfl, (hd.mono s1).or, (fun u r => r), T.ext.kv .view, _, rfl, iteF ?_⟩
      refine ⟨_, rfl, ls, _, _, _, rfl, rfl, sq upd_same, rfl, false, rfl, iteF ?_⟩
      refine ⟨(by show 3 ≤ sizeLine; decide), fun l2 nl2 => ?_⟩
      refine ⟨_, rfl, .inl ⟨rfl, _, sq (same_new nl2 _ _ upd_same)⟩, ls, _, _, 2, .bl true, rfl, rfl, sq (same_new nl2 _ _ upd_same), rfl, rfl, rfl, rfl, fun m z hm hz' => ?_, ?_⟩
      · have e0 : m = 0 ∨ m = 1 := by omega
        rcases e0 with e0 | e0
        · subst e0
          have e1 := Option.some.inj hz'
          rw [← e1]
          rfl
        · subst e0
          have e1 := Option.some.inj hz'
          rw [← e1]
          rfl
      · refine ⟨l2, _, _, _, rfl, rfl, sq upd_same, rfl, (by show 2 ≤ sizeLine; decide), fun t nt => ?_⟩
        exact q _ t ((s1.trans (same_new nl2)).trans (same_new nt)) upd_same
    · have dor := hd.or
      refine ⟨_, pss_cons (ps_set (i := 1) sc_word.nd rfl (.inl rfl) (pe_lst (pa_cons (pe_callB (call_isP (T.ext.ec .many) List.mem_cons_self hz hf) (by rfl) T.f_isinstance (by decide +kernel) (pa_cons (pv 0) (pa_cons (pe_glob (v := .ref (ga K "NoPair")) (by rfl) T.g_NoPair rfl) pa_nil))) (pa_cons (pe_callB (call_isP (T.ext.ec .many) List.mem_cons_self hz hf) (by rfl) T.f_isinstance (by decide +kernel) (pa_cons (pv 0) (pa_cons (pe_glob (v := .ref (ga K "NoCount")) (by rfl) T.g_NoCount rfl) pa_nil)))
        (pa_cons (pe_callB (call_isP (T.ext.ec .many) List.mem_cons_self hz hf) (by rfl) T.f_isinstance (by decide +kernel) (pa_cons (pv 0) (pa_cons (pe_glob (v := .ref (ga K "NoView")) (by rfl) T.g_NoView rfl) pa_nil))) (pa_cons (pe_callB (call_isP (T.ext.ec .many) List.mem_cons_self hz hf) (by rfl) T.f_isinstance (by decide +kernel) (pa_cons (pv 0) (pa_cons (pe_glob (v := .ref (ga K "TooMany")) (by rfl) T.g_TooMany rfl) pa_nil))) pa_nil))))))
        (pss_cons (ps_if (PW.pt (pw_or (pt_cmpR op_ne (pe_bm PySem.F.plainAttrs_list PySem.F.slot_list_count PySem.F.type_list_count mt_countV (pv 1) (pa_cons pe_bl pa_nil)) pe_int (nomark _))
          (pw_or1 (pt_not (pt_val (pe_callB (call_isP (T.ext.ec .many) List.mem_cons_self hz hf) (by rfl) T.f_isinstance (by decide +kernel) (pa_cons (pv 0) (pa_cons (pe_bltn (v := .ty "ValueError") (by rfl) T.f_ValueError (by decide +kernel) rfl) pa_nil)))))))) pss_never pss_nil)
        (pss_cons (ps_if (pt_val (pe_ix ix_list (pv 1) pe_int (fun _ _ => rfl))) (pss_one (ps_ret (pe_tup (pa_cons pe_str (pa_cons (pe_xfP (T.ext.ec .many) T.n_TooMany_number List.mem_cons_self hz hf (pv 0)) pa_nil))))) pss_nil)
        pss_never)), ?_⟩
      refine ⟨_, rfl, _, _, _, rfl, dor, (fun u r => r), T.ext.kk .many .pair, _, rfl, _, _, _, rfl, dor, (fun u r => r), T.ext.kk .many .count, _, rfl, _, _, _, rfl, dor, (fun u r => r), T.ext.kk .many .view, _, rfl, _, _, _, rfl, dor, (fun u r => r), T.ext.kk .many .many, (by show 4 ≤ sizeLine; decide), fun ls nls => ?_⟩
      have s1 : Same H (upd H ls (.lst [.bl (decide (Kd.many = Kd.pair)), .bl (decide (Kd.many = Kd.count)), .bl (decide (Kd.many = Kd.view)), .bl (decide (Kd.many = Kd.many))])) := same_new nls
      refine ⟨_, rfl, .inl ⟨rfl, _, sq upd_same⟩, ls, _, _, 1, rfl, rfl, sq upd_same, rfl, rfl, rfl, rfl, _, rfl, iteF ?_⟩
      refine ⟨_, rfl, _, _, _, rfl, (hd.mono s1).or, (fun u r => r), T.ext.kv .many, _, rfl, iteF ?_⟩
      refine ⟨_, rfl, ls, _, _, _, rfl, rfl, sq upd_same, rfl, true, rfl, iteT ?_⟩
      obtain ⟨dd, ed, hx⟩ := hd
      refine ⟨_, rfl, rfl, dd, _, _, ed, s1 _ _ hx, rfl, (by show 2 ≤ sizeLine; decide), fun t nt => ?_⟩
      exact q _ t (s1.trans (same_new nt)) upd_same
end
end K81
/-! What is refused. -/
namespace K81
open PySem PySem.Spec PyProof.Rows L2 He
/-- _law_refused: the four ways in which the law asks it -/
def spRefused (K : PySem.W.Frag) : Sp := fun vs H Q _ => ∃ (way : Nat) (a b : Addr) (sv : V) (r1 r2 g1 g2 : Int) (ax bx : Ax) (k : Kd) (n : Int), vs = [.int (way : Int), .ref a, .ref b, sv] ∧ (1 ≤ way ∧ way ≤ 4) ∧ ViewAt K H a r1 g1 ax ∧ ViewAt K H b r2 g2 bx ∧
  ((∃ (s h : Addr) (vals : List Int), sv = .ref s ∧ StoreAt K H s h vals ∧ r1 = r2 ∧ cnt ax = cnt bx ∧ ((k = .many ∧ n = cnt ax ∧ r1 = (vals.length : Int) ∧ 4096 < cnt ax) ∨ (k = .view ∧ n = 0 ∧ r1 ≠ (vals.length : Int)))) ∨
   (sv = .non ∧ 2 ≤ way ∧ n = 0 ∧ ((k = .pair ∧ r1 ≠ r2) ∨ (k = .count ∧ r1 = r2 ∧ cnt ax ≠ cnt bx)))) ∧
  ∀ H' t, Same H H' → H' t = some (.tup [.str k.word, .int (k.num n)]) → Q (.ref t) H'
theorem wayF_run (way : Nat) (a b : Addr) (x : Int) : (wayF way a b x).lookup ("run" : Str) = none := by
  unfold wayF
  split
  · rfl
  · exact f2_no (by decide +kernel) (by decide +kernel)
  · exact f2_no (by decide +kernel) (by decide +kernel)
  · exact f2_no (by decide +kernel) (by decide +kernel)
  · exact f2_no (by decide +kernel) (by decide +kernel)
theorem roomH_mark {k : Nat} {A : Around} {h : Option Value} (r : Room k A) : L2H.RoomH k (A.mark h) := ⟨r.dp, r.un⟩
section
variable {P : Program} {w : World} {K : PySem.W.Frag} {mg : Str → Option Value} {base : Heap}
def rNN : R2 := fun x y H Q => y = V.non ∧ Q (.bl (!decide (x = V.non))) H
def t_rf (K : PySem.W.Frag) (way : Nat) : WX → TS := fun W =>
  tSeq (tAsg (tCallS (spMade K) (WE W) (tCons (tVar 0) (tCons (tVar 1) (tCons (tVar 2) (tCons (tC (.int 5)) tNil))))) (gName 4))
    (tIfS (tTest (tOp rNN (tVar 3) (tC .non))) (tDrop (tMethT (ga K (wayC way)) "run" (spRun K way) (WE W) (tVar 4) (tCons (tVar 3) tNil))) tNext)
theorem sc_refused : FnScope ["_law_way", "_law_one", "_law_other", "_law_store", "_law_statement", "_law_e"] ["_law_way", "_law_one", "_law_other", "_law_store"] (defScope s_lrefused) := ⟨rfl, rfl, rfl, by decide +kernel, rfl, by decide +kernel, by decide +kernel⟩
theorem g_refused (T : Txt K mg) (GM : Gd P w K mg base (L2.CX P w) 6 "_law_made" ["_law_way", "_law_one", "_law_other", "_law_value"] (spMade K)) (GR : ∀ way, way ≤ 4 → Md P w K mg base (L2.CX P w) 6 (wayC way) "run" ["self", "store"] (spRun K way)) (GW : WordOk P w K mg base) :
    Gd P w K mg base CX0 7 "_law_refused" ["_law_way", "_law_one", "_law_other", "_law_store"] (spRefused K) := by
  obtain ⟨fd, F⟩ := T.d__law_refused
  refine ⟨_, fd, fok0 F sc_refused (fun vs H Q E h => ?_) (fun cdv A outer s H vs Q E hr h => ?_), T.g__law_refused, F.kp, bnd F fun _ _ _ _ _ _ us hl => match us, hl with | [_, _, _, _], _ => rfl⟩
  · obtain ⟨way, a, b, sv, r1, r2, g1, g2, ax, bx, k, n, rfl, _⟩ := h
    rfl
  · obtain ⟨way, a, b, sv, r1, r2, g1, g2, ax, bx, k, n, rfl, ⟨w1, w4⟩, hA, hB, hq, q⟩ := h
    obtain ⟨fw, fdw, FW, gW, kW, bW⟩ := GW
    have GR1 := GR way w4
    refine ⟨_, pss_cons (ps_try_as (i := 5) (tb := t_rf K way) (ts := fun a cls d => tRet (tCall (spWord K a cls d) [] E0 (tCons (tVar 5) tNil))) (Wout := fun _ _ _ _ => False) rfl rfl sc_refused.nd rfl rfl ⟨rfl, by decide, Or.inl T.g_PaceError⟩ takes0
        (fun W pn xe tk _ => pss_cons (ps_set (i := 4) sc_refused.nd rfl (.inl rfl) (by exact (pe_gS GM hr (fun σ => passAt tk σ) (by exact (pa_cons (pv 0) (pa_cons (pv 1) (pa_cons (pv 2) (pa_cons pe_int pa_nil))))))))
          (pss_one (ps_if (by exact (pt_cmpR op_notN (pv 3) pe_non (nomark _))) (pss_one (ps_expr (by exact (pe_mT (pv 4) GR1 hr (fun σ => passAt tk σ) (by exact (pa_cons (pv 3) pa_nil)))))) pss_nil)))
        (fun a oe cls d pn hz hf => pss_one (ps_ret (by exact (pe_callPin (p := (a, oe)) FW (roomH_mark (hr.mono (by decide))) List.mem_cons_self hz hf (by rfl) gW kW bW (by exact (pa_cons (pv 5) pa_nil)))))))
      pss_never, ?_⟩
    have out : ∀ (σ : L2.St) (H1 : Hp), Same H H1 → σ.length = 6 → ER K (WE (wAs K (.ref (ga K "PaceError")) 5 (fun a cls d => tRet (tCall (spWord K a cls d) [] E0 (tCons (tVar 5) tNil))) (fun _ _ _ _ => False) { nx := tNever { nx := fun _ H' => Q .non H', rt := Q }, rt := Q }) σ) H1 k n := by
      intro σ H1 s1 hlen H2 d s2 hd
      refine ⟨true, ?_, fun _ a0 na => ?_, fun z => Bool.noConfusion z⟩
      · cases k
        · exact T.x_NoPair
        · exact T.x_NoCount
        · exact T.x_NoView
        · exact T.x_TooMany
      · refine ⟨.ref a0, by rw [List.getElem?_set_self (by omega)], k, n, rfl, rfl, hd, fun H3 t s3 ht => ?_⟩
        exact q H3 t ((s1.trans s2).trans s3) ht
    refine ⟨_, rfl, _, rfl, _, rfl, way, a, b, 5, r1, r2, g1, g2, ax, bx, rfl, w4, hA, hB, ?_⟩
    rcases hq with ⟨sr, h, vals, rfl, hS, er, ec, hq⟩ | ⟨rfl, h2, rfl, ⟨rfl, er⟩ | ⟨rfl, er, ec⟩⟩
    · refine .inl ⟨er, ec, fun H1 st s1 nst hst => ?_⟩
      obtain ⟨dt, ht⟩ := id hst
      refine ⟨_, rfl, rfl, _, rfl, iteT ?_⟩
      refine ⟨_, rfl, st, dt, _, rfl, ht, wayF_run way a b 5, _, rfl, ?_⟩
      rw [← er] at hB
      refine ⟨st, sr, h, a, b, 5, vals, r1, g1, g2, ax, bx, rfl, hst, hS.mono s1, hA.mono s1, hB.mono s1, ec, ?_⟩
      rcases hq with ⟨rfl, rfl, e1, e2⟩ | ⟨rfl, rfl, e1⟩
      · exact .inr (.inl ⟨w1, e1, e2, out _ H1 s1 rfl⟩)
      · exact .inr (.inr ⟨w1, e1, out _ H1 s1 rfl⟩)
    · exact .inr (.inl ⟨h2, er, out _ H (Same.refl H) rfl⟩)
    · exact .inr (.inr ⟨h2, er, ec, out _ H (Same.refl H) rfl⟩)
end
end K81
/-! The law's small defs. -/
namespace K81
open PySem PySem.Spec PyProof.Rows L2 He
/-! ### data compared -/
theorem lay_ints : ∀ ns : List Int, PyData.canLayAll0 (ns.map PyData.int) = true
  | [] => rfl
  | n :: r => by
    show (PyData.canLay0 (.int n) && PyData.canLayAll0 (r.map PyData.int)) = true
    rw [lay_ints r]
    rfl
theorem dep_ints : ∀ ns : List Int, PyData.depthAll (ns.map PyData.int) = 0
  | [] => rfl
  | n :: r => by
    show max (PyData.depth (.int n)) (PyData.depthAll (r.map PyData.int)) = 0
    rw [dep_ints r]
    rfl
theorem dp_ints {K : PySem.W.Frag} {H : Hp} : ∀ ns : List Int, DpAll K H (ns.map V.int) (ns.map PyData.int)
  | [] => .nil
  | n :: r => .cons (.int n) (dp_ints r)
theorem shaped_ints (ns : List Int) : SeqAt.shaped (.list (ns.map PyData.int)) = true := by
  unfold SeqAt.shaped
  have h1 : (PyData.list (ns.map PyData.int)).canLay0 = true := lay_ints ns
  have h2 : (PyData.list (ns.map PyData.int)).depth ≤ 64 := by
    show PyData.depthAll (ns.map PyData.int) + 1 ≤ 64
    rw [dep_ints]
    decide
  rw [h1, decide_eq_true h2]
  rfl
def dAx (ax : Ax) : List PyData := ax.map fun p => .tuple [.int p.1, .int p.2]
theorem lay_ax : ∀ ax : Ax, PyData.canLayAll0 (dAx ax) = true
  | [] => rfl
  | p :: r => by
    show (PyData.canLay0 (.tuple [.int p.1, .int p.2]) && PyData.canLayAll0 (dAx r)) = true
    rw [lay_ax r]
    rfl
theorem dep_ax : ∀ ax : Ax, PyData.depthAll (dAx ax) ≤ 1
  | [] => by decide
  | p :: r => by
    show max (PyData.depth (.tuple [.int p.1, .int p.2])) (PyData.depthAll (dAx r)) ≤ 1
    have h := dep_ax r
    have e : PyData.depth (.tuple [.int p.1, .int p.2]) = 1 := rfl
    rw [e]
    omega
theorem shaped_ax (ax : Ax) : SeqAt.shaped (.list (dAx ax)) = true := by
  unfold SeqAt.shaped
  have h1 : (PyData.list (dAx ax)).canLay0 = true := lay_ax ax
  have h2 : (PyData.list (dAx ax)).depth ≤ 64 := by
    show PyData.depthAll (dAx ax) + 1 ≤ 64
    have := dep_ax ax
    omega
  rw [h1, decide_eq_true h2]
  rfl
theorem dp_ax {K : PySem.W.Frag} {H : Hp} : ∀ {ts : List Addr} {ax : Ax}, Tups H ts ax → DpAll K H (ts.map V.ref) (dAx ax)
  | [], [], _ => .nil
  | [], _ :: _, h => by cases h.1
  | _ :: _, [], h => by cases h.1
  | t :: ts, p :: ax, h => .cons (.tup (sqt (h.2 0 t p rfl rfl)) (.cons (.int _) (.cons (.int _) .nil))) (dp_ax ⟨Nat.succ.inj h.1, fun i u q a b => h.2 (i + 1) u q a b⟩)
theorem eqv_self {d : PyData} (h : SeqAt.shaped d = true) : PyData.eqv d d = true := SeqAt.eqv_refl d (SeqAt.canLay_of_shaped h)
theorem low_more {ax : Ax} {i : Nat} {p : Int × Int} (h : ax[i]? = some p) : lowA (ax.take (i + 1)) = lowA (ax.take i) + mn (p.2 * (p.1 - 1)) := by
  rw [take_more h]
  unfold lowA
  rw [List.map_append, List.sum_append]
  simp
theorem high_more {ax : Ax} {i : Nat} {p : Int × Int} (h : ax[i]? = some p) : highA (ax.take (i + 1)) = highA (ax.take i) + mx (p.2 * (p.1 - 1)) := by
  rw [take_more h]
  unfold highA
  rw [List.map_append, List.sum_append]
  simp

/-! ### promises -/
def spDraw (K : PySem.W.Frag) : Sp := fun vs H Q _ => ∃ (a : Addr) (ns : List Int) (k many : Int), vs = [.ref a, .int k, .int many] ∧ SqL K H a (ns.map V.int) ∧ ns.length ≤ 63 ∧ 0 ≤ k ∧ k ≤ 1000 ∧ 0 < many ∧ ∀ d, 0 ≤ d → d < many → Q (.int d) H
def spLList (K : PySem.W.Frag) : Sp := fun vs H Q _ => ∃ (a b : Addr) (ns : List Int), vs = [.ref a, .ref b] ∧ H a = some (.lst (ns.map V.int)) ∧ H b = some (.lst (ns.map V.int)) ∧ ns.length ≤ 4096 ∧ ∀ H', Same H H' → Q (.bl true) H'
def spLCells (K : PySem.W.Frag) : Sp := fun vs H Q _ => ∃ (l : Addr) (first : Int) (ax : Ax), vs = [.int first, .ref l] ∧ AxAt H l ax ∧ (∀ p ∈ ax, 1 ≤ p.1 ∧ p.1 ≤ 1000000000) ∧ cnt ax ≤ 4096 ∧ ∀ H' p, Same H H' → H p = none → H' p = some (.lst ((cellsF first ax).map V.int)) → Q (.ref p) H'
def spValues (K : PySem.W.Frag) : Sp := fun vs H Q _ => ∃ (a : Addr) (ns : List Int) (room : Int), vs = [.ref a, .int room] ∧ SqL K H a (ns.map V.int) ∧ ns.length ≤ 63 ∧ 1 ≤ room ∧ room ≤ 4096 ∧
  ∀ (H' : Hp) (p : Addr) (vals : List Int), Same H H' → H p = none → ((vals.length : Nat) : Int) = room → H' p = some (.lst (vals.map V.int)) → Q (.ref p) H'
def spLView (K : PySem.W.Frag) : Sp := fun vs H Q _ => ∃ (t l : Addr) (room first : Int) (ax : Ax), vs = [.int room, .ref t] ∧ H t = some (.tup [.int first, .ref l]) ∧ AxAt H l ax ∧ 1 ≤ room ∧ room ≤ 1000000000000000000 ∧ VOk room first ax ∧
  ∀ H' v, Same H H' → ViewAt K H' v room first (kept ax) → Q (.ref v) H'
def spReach : Sp := fun vs H Q _ => ∃ (l : Addr) (ax : Ax), vs = [.ref l] ∧ AxAt H l ax ∧ (∀ p ∈ ax, 1 ≤ p.1 ∧ p.1 ≤ 1000000000) ∧ ∀ H' t, Same H H' → H t = none → H' t = some (.tup [.int (lowA ax), .int (highA ax)]) → Q (.ref t) H'
def spSame (K : PySem.W.Frag) : Sp := fun vs H Q _ => ∃ (a b : Addr) (us : List Addr), vs = [.ref a, .ref b] ∧ H a = some (.lst (us.map V.ref)) ∧ H b = some (.lst (us.map V.ref)) ∧ (∀ u ∈ us, ∃ room first ax, ViewAt K H u room first ax) ∧ ∀ H', Same H H' → Q (.bl true) H'
section
variable {P : Program} {w : World} {K : PySem.W.Frag} {mg : Str → Option Value} {base : Heap}
theorem sc_draw : FnScope ["_law_script", "_law_k", "_law_many", "_law_number", "_law_cell"] ["_law_script", "_law_k", "_law_many"] (defScope s_draw) := ⟨rfl, rfl, rfl, by decide +kernel, rfl, by decide +kernel, by decide +kernel⟩
theorem g_draw (T : Txt K mg) : Gd P w K mg base CX0 1 "_law_draw" ["_law_script", "_law_k", "_law_many"] (spDraw K) := by
  obtain ⟨fd, F⟩ := T.d__law_draw
  refine ⟨_, fd, fok0 F sc_draw (fun vs H Q E h => ?_) (fun cdv A outer s H vs Q E hr h => ?_), T.g__law_draw, F.kp, bnd F fun _ _ _ _ _ _ us hl => match us, hl with | [_, _, _], _ => rfl⟩
  · obtain ⟨a, ns, k, many, rfl, _⟩ := h
    rfl
  · obtain ⟨a, ns, k, many, rfl, hS, hlen, k0, k1, m0, q⟩ := h
    refine ⟨_, pss_cons (ps_if (pt_cmpR op_lt (pv 1) (pe_callB call_len_seq (by rfl) T.f_len PySem.boot_len (pa_cons (pv 0) pa_nil)) (nomark _)) (pss_one (ps_ret (pe_op op_mod (pe_ix ix_list (pv 0) (pv 1) (fun _ _ => rfl)) (pv 2)))) pss_nil)
      (pss_cons (ps_set (i := 3) sc_draw.nd rfl (.inl rfl) (pe_op op_add (pe_op op_mul (pe_op op_mul (pv 1) (pv 1)) pe_int) pe_int))
      (pss_cons (ps_if (pt_cmpR op_gt (pe_callB call_len_seq (by rfl) T.f_len PySem.boot_len (pa_cons (pv 0) pa_nil)) pe_int (nomark _))
        (pss_cons (ps_set (i := 4) sc_draw.nd rfl (.inl rfl) (pe_op op_mod (pe_ix ix_list (pv 0) (pe_op op_mod (pv 1) (pe_callB call_len_seq (by rfl) T.f_len PySem.boot_len (pa_cons (pv 0) pa_nil))) (fun _ _ => rfl)) pe_int))
        (pss_one (ps_set (i := 3) sc_draw.nd rfl (.inl rfl) (pe_op op_add (pe_op op_mul (pv 4) (pe_op op_add pe_int (pe_op op_mul (pe_op op_mul pe_int (pv 1)) (pv 1)))) (pe_op op_mul (pv 1) pe_int))))) pss_nil)
      (pss_one (ps_ret (pe_op op_mod (pe_op op_mod (pe_op op_mul (pe_op op_mod (pv 3) pe_int) pe_int) pe_int) (pv 2)))))), ?_⟩
    have last : ∀ (n : Int) (v4 : Option V), (tRet (tOp (rI (fun _ j => 0 < j) fun i j => .int (i % j)) (tOp (rI (fun _ j => 0 < j) fun i j => .int (i % j)) (tOp (rI CMul fun i j => .int (i * j)) (tOp (rI (fun _ j => 0 < j) fun i j => .int (i % j)) (tVar 3) (tC (.int 2147483647))) (tC (.int 16807))) (tC (.int 2147483629))) (tVar 2)) : TS)
        { nx := fun _ H' => Q .non H', rt := Q } [some (.ref a), some (.int k), some (.int many), some (.int n), v4] H := fun n v4 => by
      refine ⟨_, rfl, _, _, rfl, rfl, (by show (0 : Int) < 2147483647; decide), _, _, rfl, rfl, .inr ⟨by decide, by decide⟩, _, _, rfl, rfl, (by show (0 : Int) < 2147483629; decide), _, rfl, _, _, rfl, rfl, m0, ?_⟩
      exact q _ (Int.emod_nonneg _ (by omega)) (Int.emod_lt_of_pos _ m0)
    refine ⟨_, rfl, _, rfl, a, _, rfl, .inl hS, _, _, rfl, rfl, _, rfl, ite2 (fun c => ?_) (fun c => ?_)⟩
    · have c1 : k < (ns.length : Int) := by
        have := of_decide_eq_true c
        rw [List.length_map] at this
        exact this
      refine ⟨_, rfl, _, rfl, a, _, k, _, rfl, rfl, hS, at_cell k0 c1, _, rfl, _, _, rfl, rfl, m0, ?_⟩
      exact q _ (Int.emod_nonneg _ (by omega)) (Int.emod_lt_of_pos _ m0)
    · refine ⟨_, rfl, _, rfl, _, _, rfl, rfl, .inl ⟨by omega, by omega⟩, _, _, rfl, rfl, .inr ⟨by decide, by decide⟩, _, _, rfl, rfl, ?_⟩
      refine ⟨_, rfl, a, _, rfl, .inl hS, _, _, rfl, rfl, _, rfl, ite2 (fun c2 => ?_) (fun c2 => ?_)⟩
      · have hpos : (0 : Int) < (ns.length : Int) := by
          have := of_decide_eq_true c2
          rw [List.length_map] at this
          exact this
        have i0 : 0 ≤ k % (ns.length : Int) := Int.emod_nonneg _ (by omega)
        have i1 : k % (ns.length : Int) < (ns.length : Int) := Int.emod_lt_of_pos _ hpos
        refine ⟨_, rfl, _, rfl, _, rfl, a, _, rfl, .inl hS, _, _, rfl, rfl, (by rw [List.length_map]; exact hpos), a, _, _, _, rfl, rfl, hS, (by rw [List.length_map]; exact at_cell i0 i1), _, _, rfl, rfl, (by show (0 : Int) < 999999937; decide), ?_⟩
        generalize hz : ns.getD (k % (ns.length : Int)).toNat 0 = z
        refine ⟨_, rfl, _, rfl, _, _, rfl, rfl, .inr ⟨by omega, by omega⟩, _, rfl, _, _, rfl, rfl, .inr ⟨by omega, by omega⟩, _, _, rfl, rfl, _, _, rfl, rfl, .inl ⟨by omega, by omega⟩, _, rfl, _, _, rfl, rfl, .inr ⟨by decide, by decide⟩, _, _, rfl, rfl, ?_⟩
        exact last _ _
      · exact last _ _
theorem sc_lwhole : FnScope ["_law_found"] ["_law_found"] (defScope s_lwhole) := ⟨rfl, rfl, rfl, by decide +kernel, rfl, by decide +kernel, by decide +kernel⟩
theorem g_lwhole (T : Txt K mg) : Gd P w K mg base CX0 1 "_law_whole" ["_law_found"] spIsWhole := by
  obtain ⟨fd, F⟩ := T.d__law_whole
  refine ⟨_, fd, fok0 F sc_lwhole (fun vs H Q E h => ?_) (fun cdv A outer s H vs Q E hr h => ?_), T.g__law_whole, F.kp, bnd F fun _ _ _ _ _ _ us hl => match us, hl with | [_], _ => rfl⟩
  · obtain ⟨i, rfl, _⟩ := h
    rfl
  · obtain ⟨i, rfl, q⟩ := h
    refine ⟨_, pss_one (ps_ret (pe_and (pe_callB call_isi (by rfl) T.f_isinstance (by decide +kernel) (pa_cons (pv 0) (pa_cons (pe_bltn (v := .ty "int") (by rfl) T.f_int (by decide +kernel) rfl) pa_nil)))
      (pe_one (pe_not (pe_callB call_isi (by rfl) T.f_isinstance (by decide +kernel) (pa_cons (pv 0) (pa_cons (pe_bltn (v := .ty "bool") (by rfl) T.f_bool (by decide +kernel) rfl) pa_nil))))))), ?_⟩
    refine ⟨_, rfl, _, _, _, _, true, rfl, .ty "int", .base (.int i), kit_ty (by decide +kernel), true, rfl, iteT ?_⟩
    exact ⟨_, rfl, _, _, _, _, false, rfl, .ty "bool", .base (.int i), kit_ty (by decide +kernel), false, rfl, q⟩
theorem sc_llist : FnScope ["_law_found", "_law_due_here", "_law_one"] ["_law_found", "_law_due_here"] (defScope s_llist) := ⟨rfl, rfl, rfl, by decide +kernel, rfl, by decide +kernel, by decide +kernel⟩
theorem g_llist (T : Txt K mg) (GW : Gd P w K mg base CX0 1 "_law_whole" ["_law_found"] spIsWhole) : Gd P w K mg base CX0 2 "_law_list" ["_law_found", "_law_due_here"] (spLList K) := by
  obtain ⟨fd, F⟩ := T.d__law_list
  refine ⟨_, fd, fok0 F sc_llist (fun vs H Q E h => ?_) (fun cdv A outer s H vs Q E hr h => ?_), T.g__law_list, F.kp, bnd F fun _ _ _ _ _ _ us hl => match us, hl with | [_, _], _ => rfl⟩
  · obtain ⟨a, b, ns, rfl, _⟩ := h
    rfl
  · obtain ⟨a, b, ns, rfl, ha, hb, hlen, q⟩ := h
    refine ⟨_, pss_one (ps_ret (pe_and (pe_callB call_isi (by rfl) T.f_isinstance (by decide +kernel) (pa_cons (pv 0) (pa_cons (pe_bltn (v := .ty "list") (by rfl) T.f_list (by decide +kernel) rfl) pa_nil)))
      (pe_and (pe_cmpR (op_eqD hr.units) (pv 0) (pv 1) (nomark _))
      (pe_one (pe_cmpR (op_eqD hr.units) (pe_lc (own := [("_law_one", 2)]) (g := gName 2) (tt := tNot (tB (tCall spIsWhole [] E0 (tCons (tVar 2) tNil)))) (te := tVar 2) rfl sc_llist.nd (pi_list (pv 0)) (blkOk_by (N := ["_law_found", "_law_due_here", "_law_one"]) (sc := defScope s_llist) (by decide +kernel))
        (fun _ _ _ _ _ => by exact pg_name (i := 2) sc_llist.nd rfl (.inl rfl)) (fun _ _ _ _ _ => by exact pts_one (pt_not (pt_val (pe_g GW hr pass0 (pa_cons (pv 2) pa_nil))))) (fun _ _ _ _ _ => by exact pv 2)) (pe_lst pa_nil) (nomark _)))))), ?_⟩
    refine ⟨_, rfl, _, _, _, _, true, rfl, .ty "list", .base (.lst ha), kit_ty (by decide +kernel), true, rfl, iteT ?_⟩
    refine ⟨_, rfl, _, rfl, .list (ns.map PyData.int), .list (ns.map PyData.int), .lst (sq ha) (dp_ints ns), .lst (sq hb) (dp_ints ns), shaped_ints ns, shaped_ints ns, true, ?_, iteT ?_⟩
    · rw [eqv_self (shaped_ints ns)]
    refine ⟨_, rfl, a, rfl, ⟨_, sq ha⟩, fun D hD => ?_⟩
    refine lc_list (K := K) (a := a) (xs := ns.map V.int) (fun i H' => Same H H' ∧ H' D = some (.lst [])) ⟨same_new hD, upd_same⟩ (fun i H' _ ⟨s1, _⟩ => s1.seq (sq ha)) ?_ ?_
    · rintro i y H' hi ⟨s1, h1⟩
      obtain ⟨n, hn, rfl⟩ := map_at hi
      exact ⟨rfl, _, rfl, n, rfl, true, rfl, s1, h1⟩
    · rintro H' ⟨s1, h1⟩
      refine ⟨Nat.zero_le _, fun p np => ?_⟩
      refine ⟨.list [], .list [], .lst (sq (same_new np _ _ h1)) .nil, .lst (sq upd_same) .nil, rfl, rfl, ?_⟩
      exact q _ (s1.trans (same_new np))
theorem sc_lcells : FnScope ["_law_first", "_law_axes_here", "_law_cells_here", "_law_size", "_law_pace", "_law_more", "_law_cell", "_law_k"] ["_law_first", "_law_axes_here"] (defScope s_lcells) := ⟨rfl, rfl, rfl, by decide +kernel, rfl, by decide +kernel, by decide +kernel⟩
theorem g_lcells (T : Txt K mg) : Gd P w K mg base CX0 1 "_law_cells" ["_law_first", "_law_axes_here"] (spLCells K) := by
  obtain ⟨fd, F⟩ := T.d__law_cells
  refine ⟨_, fd, fok0 F sc_lcells (fun vs H Q E h => ?_) (fun cdv A outer s H vs Q E hr h => ?_), T.g__law_cells, F.kp, bnd F fun _ _ _ _ _ _ us hl => match us, hl with | [_, _], _ => rfl⟩
  · obtain ⟨l, first, ax, rfl, _⟩ := h
    rfl
  · obtain ⟨l, first, ax, rfl, ⟨ts, hl, ht⟩, a1, hc, q⟩ := h
    refine ⟨_, pss_cons (ps_set (i := 2) sc_lcells.nd rfl (.inl rfl) (pe_lst (pa_cons (pv 0) pa_nil)))
      (pss_cons (ps_for PassesOwn.never rfl (pi_list (pv 1)) (pg_tup rfl (pgs_cons (pg_name (i := 3) sc_lcells.nd rfl (.inl rfl)) (pgs_cons (pg_name (i := 4) sc_lcells.nd rfl (.inr rfl)) pgs_nil)))
        (pss_cons (ps_set (i := 5) sc_lcells.nd rfl (.inl rfl) (pe_lst pa_nil))
        (pss_cons (ps_for PassesOwn.never rfl (pi_list (pv 2)) (pg_name (i := 6) sc_lcells.nd rfl (.inr rfl))
          (pss_one (ps_expr (pe_bm PySem.F.plainAttrs_list PySem.F.slot_list_extend PySem.F.type_list_extend mt_extend (pv 5)
            (pa_cons (pe_lc (own := [("_law_k", 7)]) (g := gName 7) (tt := tYes) rfl sc_lcells.nd (pi_range1 (by rfl) T.f_range (pa_cons (pv 3) pa_nil)) (blkOk_by (N := ["_law_first", "_law_axes_here", "_law_cells_here", "_law_size", "_law_pace", "_law_more", "_law_cell", "_law_k"]) (sc := defScope s_lcells) (by decide +kernel))
              (fun _ _ _ _ _ => by exact pg_name (i := 7) sc_lcells.nd rfl (.inl rfl)) (fun _ _ _ _ _ => pts_nil) (fun _ _ _ _ _ => pe_op op_add (pv 6) (pe_op op_mul (pv 7) (pv 4)))) pa_nil)))))
        (pss_one (ps_set (i := 2) sc_lcells.nd rfl (.inl rfl) (pv 5))))))
      (pss_one (ps_ret (pv 2)))), ?_⟩
    refine ⟨_, rfl, (by show 1 ≤ sizeLine; decide), fun p0 hp0 => ?_⟩
    have s2 : Same H (upd H p0 (.lst [.int first])) := same_new hp0
    refine ⟨_, rfl, l, rfl, ⟨_, s2.seq (sq hl)⟩, ?_⟩
    have a2 : ∀ p ∈ ax, 1 ≤ p.1 := fun p hp => (a1 p hp).1
    have lenT : ∀ i, ((cellsF first (ax.take i)).length : Int) ≤ 4096 := fun i => by
      have e : ((cellsF first (ax.take i)).length : Int) = cnt (ax.take i) := cellsF_len fun p hp => by
        have := a2 p (List.mem_of_mem_take hp)
        omega
      have := cnt_take_le a2 i
      omega
    refine for_list (K := K) (a := l) (xs := ts.map V.ref) (fun i σ H' => ∃ (v2 v3 v4 v5 : Option V) (p : Addr), σ = [some (.int first), some (.ref l), some (.ref p), v2, v3, v4, v5, none] ∧ Same H H' ∧ H p = none ∧ H' p = some (.lst ((cellsF first (ax.take i)).map V.int)))
      ⟨none, none, none, none, p0, rfl, s2, hp0, upd_same⟩ (fun i σ H' _ ⟨_, _, _, _, _, _, s, _⟩ => s.seq (sq hl)) ?_ ?_
    · rintro i y σ H' hi ⟨v2, v3, v4, v5, p, rfl, s3, np, hp⟩
      obtain ⟨t, ⟨n, z⟩, rfl, ht2, hz2, e⟩ := (ht.mono s3).at_ hi
      have b := a1 _ (at_mem hz2)
      refine ⟨t, _, rfl, sqt e, rfl, _, _, rfl, _, _, rfl, rfl, ?_⟩
      refine ⟨Nat.zero_le _, fun lg hlg => ?_⟩
      refine ⟨_, rfl, p, rfl, ⟨_, (same_new hlg).seq (sq hp)⟩, ?_⟩
      have nplg : p ≠ lg := ne_of_none hp hlg
      have stepL : ∀ j, ((stepC ((cellsF first (ax.take i)).take j) (n, z)).length : Int) ≤ 4096 := fun j => by
        have h1 := lenT (i + 1)
        have e1 : cellsF first (ax.take (i + 1)) = stepC (cellsF first (ax.take i)) (n, z) := fold_more hz2
        rw [e1, stepC_len] at h1
        rw [stepC_len]
        have h2 : ((cellsF first (ax.take i)).take j).length ≤ (cellsF first (ax.take i)).length := by
          rw [List.length_take]
          exact Nat.min_le_right _ _
        have h3 := Nat.mul_le_mul_right ((n, z) : Int × Int).1.toNat h2
        omega
      refine for_list (K := K) (a := p) (xs := (cellsF first (ax.take i)).map V.int) (fun j σ H'' => ∃ (v5 : Option V), σ = [some (.int first), some (.ref l), some (.ref p), some (.int n), some (.int z), some (.ref lg), v5, none] ∧ Same H' H'' ∧ H'' lg = some (.lst ((stepC ((cellsF first (ax.take i)).take j) (n, z)).map V.int)))
        ⟨v5, rfl, same_new hlg, upd_same⟩ (fun j σ H'' _ ⟨_, _, s, _⟩ => s.seq (sq hp)) ?_ ?_
      · rintro j y σ H4 hj ⟨v5, rfl, s4, h4⟩
        obtain ⟨c, hc2, rfl⟩ := map_at hj
        refine ⟨_, rfl, .inl ⟨rfl, _, sq h4⟩, _, rfl, n, rfl, by omega, by omega, fun D hD => ?_⟩
        refine lc_range (lo := 0) (n := n.toNat) (fun k H5 => Same H4 H5 ∧ H5 D = some (.lst ((((List.range n.toNat).take k).map fun (k : Nat) => c + z * (k : Int)).map V.int))) ⟨same_new hD, upd_same⟩ ?_ ?_
        · rintro k H5 hk ⟨s5, h5⟩
          have hkr : (List.range n.toNat)[k]? = some k := by rw [List.getElem?_range hk]
          have h8 : ((n, z) : Int × Int).1.toNat = n.toNat := rfl
          have h6 := stepL (j + 1)
          rw [stepC_more hc2, List.length_append, spanC_len] at h6
          refine ⟨rfl, _, rfl, _, rfl, _, rfl, _, _, rfl, rfl, .inl ⟨by omega, by omega⟩, _, _, rfl, rfl, _, h5, ?_, same_mut s5 hD, ?_⟩
          · exact smallt (m := 4097) (by rw [List.length_map, List.length_map, List.length_take, List.length_range]; omega)
          · rw [upd_same, take_more hkr, List.map_append, List.map_append]
            simp [Int.mul_comm]
        · rintro H5 ⟨s5, h5⟩
          have er : (List.range n.toNat).take n.toNat = List.range n.toNat := List.take_of_length_le (by rw [List.length_range]; exact Nat.le_refl _)
          rw [er] at h5
          refine ⟨lg, D, _, _, rfl, rfl, s5 _ _ h4, h5, ?_, some (.int c), rfl, same_mut (s4.trans s5) hlg, ?_⟩
          · have h6 := stepL (j + 1)
            rw [stepC_more hc2, List.length_append, spanC_len] at h6
            refine small (m := 4096) ?_
            rw [List.length_map, List.length_map, List.length_map, List.length_range]
            have h8 : ((n, z) : Int × Int).1.toNat = n.toNat := rfl
            omega
          · rw [upd_same, stepC_more hc2, List.map_append]
            rfl
      · rintro σ H4 ⟨v5, rfl, s4, h4⟩
        rw [List.length_map, List.take_length] at h4
        refine ⟨_, rfl, some (.int n), some (.int z), some (.ref lg), v5, lg, rfl, s3.trans s4, s3.free hlg, ?_⟩
        have e1 : cellsF first (ax.take (i + 1)) = stepC (cellsF first (ax.take i)) (n, z) := fold_more hz2
        rw [e1]
        exact h4
    · rintro σ H' ⟨v2, v3, v4, v5, p, rfl, s3, np, hp⟩
      rw [List.length_map, ht.1, List.take_length] at hp
      exact ⟨_, rfl, q H' p s3 np hp⟩
end
end K81
/-! The law's values, views, reach, sameness. -/
namespace K81
open PySem PySem.Spec PyProof.Rows L2 He
section
variable {P : Program} {w : World} {K : PySem.W.Frag} {mg : Str → Option Value} {base : Heap}
abbrev rAddI : R2 := rI0 fun i j => .int (i + j)
abbrev rSubI : R2 := rI0 fun i j => .int (i - j)
abbrev rMulI : R2 := rI CMul fun i j => .int (i * j)
abbrev rPowI : R2 := rI CPow fun i j => .int (i ^ j.toNat)
abbrev rModI : R2 := rI (fun _ j => 0 < j) fun i j => .int (i % j)
theorem sc_lvalues : FnScope ["_law_script", "_law_room", "_law_k"] ["_law_script", "_law_room"] (defScope s_lvalues) := ⟨rfl, rfl, rfl, by decide +kernel, rfl, by decide +kernel, by decide +kernel⟩
theorem g_lvalues (T : Txt K mg) (GD : Gd P w K mg base CX0 1 "_law_draw" ["_law_script", "_law_k", "_law_many"] (spDraw K)) : Gd P w K mg base CX0 2 "_law_values" ["_law_script", "_law_room"] (spValues K) := by
  obtain ⟨fd, F⟩ := T.d__law_values
  refine ⟨_, fd, fok0 F sc_lvalues (fun vs H Q E h => ?_) (fun cdv A outer s H vs Q E hr h => ?_), T.g__law_values, F.kp, bnd F fun _ _ _ _ _ _ us hl => match us, hl with | [_, _], _ => rfl⟩
  · obtain ⟨a, ns, room, rfl, _⟩ := h
    rfl
  · obtain ⟨a, ns, room, rfl, hS, hlen, r1, r2, q⟩ := h
    refine ⟨_, pss_one (ps_ret (pe_lc (own := [("_law_k", 2)]) (g := gName 2) (tt := tYes)
      (te := tOp rAddI (tOp rSubI (tCall (spDraw K) [] E0 (tCons (tVar 0) (tCons (tOp rAddI (tC (.int 17)) (tOp rModI (tVar 2) (tC (.int 46)))) (tCons (tOp rPowI (tC (.int 10)) (tC (.int 60))) tNil)))) (tOp rMulI (tC (.int 5)) (tOp rPowI (tC (.int 10)) (tC (.int 59))))) (tVar 2))
      rfl sc_lvalues.nd (pi_range1 (by rfl) T.f_range (pa_cons (pv 1) pa_nil)) (blkOk_by (N := ["_law_script", "_law_room", "_law_k"]) (sc := defScope s_lvalues) (by decide +kernel))
      (fun _ _ _ _ _ => by exact pg_name (i := 2) sc_lvalues.nd rfl (.inl rfl)) (fun _ _ _ _ _ => pts_nil)
      (fun _ _ _ _ _ => by exact pe_op op_add (pe_op op_sub (pe_g GD hr pass0 (pa_cons (pv 0) (pa_cons (pe_op op_add pe_int (pe_op op_mod (pv 2) pe_int)) (pa_cons (pe_op op_pow pe_int pe_int) pa_nil)))) (pe_op op_mul pe_int (pe_op op_pow pe_int pe_int))) (pv 2)))), ?_⟩
    refine ⟨_, rfl, room, rfl, by omega, by omega, fun D hD => ?_⟩
    refine lc_range (lo := 0) (n := room.toNat) (fun k H' => ∃ vals : List Int, vals.length = k ∧ Same H H' ∧ H' D = some (.lst (vals.map V.int))) ⟨[], rfl, same_new hD, upd_same⟩ ?_ ?_
    · rintro k H' hk ⟨vals, el, s1, h1⟩
      refine ⟨rfl, _, rfl, _, rfl, _, _, rfl, rfl, (by show (0 : Int) < 46; decide), _, _, rfl, rfl, _, _, rfl, rfl, ⟨by decide, by decide, by decide⟩, ?_⟩
      have k0 : (0 : Int) ≤ (0 + (k : Int)) % 46 := Int.emod_nonneg _ (by decide)
      have k1 : (0 + (k : Int)) % 46 < 46 := Int.emod_lt_of_pos _ (by decide)
      refine ⟨a, ns, _, _, rfl, s1.seq hS, hlen, by omega, by omega, by show (0 : Int) < 10 ^ (60 : Int).toNat; decide, fun d d0 d1 => ?_⟩
      refine ⟨_, _, rfl, rfl, ⟨by decide, by decide, by decide⟩, _, _, rfl, rfl, .inl ⟨by decide, by decide⟩, _, _, rfl, rfl, _, rfl, _, _, rfl, rfl, _, h1, ?_, vals ++ [d - 5 * 10 ^ (59 : Int).toNat + (0 + (k : Int))], ?_, same_mut s1 hD, ?_⟩
      · exact smallt (m := 4097) (by rw [List.length_map]; omega)
      · rw [List.length_append, el]
        rfl
      · rw [upd_same, List.map_append]
        rfl
    · rintro H' ⟨vals, el, s1, h1⟩
      exact q H' D vals s1 hD (by omega) h1
theorem sc_lview : FnScope ["_law_room", "_law_one"] ["_law_room", "_law_one"] (defScope s_lview) := ⟨rfl, rfl, rfl, by decide +kernel, rfl, by decide +kernel, by decide +kernel⟩
theorem g_lview (T : Txt K mg) (KV : Kl P w K mg base CX0 4 "View" ["self", "room", "first", "axes"] (spViewInit K)) : Gd P w K mg base CX0 6 "_law_view" ["_law_room", "_law_one"] (spLView K) := by
  obtain ⟨fd, F⟩ := T.d__law_view
  refine ⟨_, fd, fok0 F sc_lview (fun vs H Q E h => ?_) (fun cdv A outer s H vs Q E hr h => ?_), T.g__law_view, F.kp, bnd F fun _ _ _ _ _ _ us hl => match us, hl with | [_, _], _ => rfl⟩
  · obtain ⟨t, l, room, first, ax, rfl, _⟩ := h
    rfl
  · obtain ⟨t, l, room, first, ax, rfl, ht, ⟨ts, hl, hts⟩, r1, r2, ok, q⟩ := h
    refine ⟨_, pss_one (ps_ret (pe_k KV hr pass0 (pa_cons (pv 0) (pa_cons (pe_ix ix_tup (pv 1) pe_int (fun _ _ => rfl)) (pa_cons (pe_callTy call_list_of (by rfl) T.f_list (by decide +kernel) (pa_cons (pe_ix ix_tup (pv 1) pe_int (fun _ _ => rfl)) pa_nil)) pa_nil))))), ?_⟩
    refine ⟨_, rfl, _, rfl, t, _, _, _, rfl, rfl, sqt ht, rfl, _, rfl, t, _, _, _, rfl, rfl, sqt ht, rfl, l, _, rfl, .inl (sq hl), fun p np => ?_⟩
    intro v dv nv ndv nvdv
    have s1 : Same H (upd H p (.lst (ts.map V.ref))) := same_new np
    have s2 := same_two (o1 := .own v) (o2 := .ins (ga K "View") dv []) nv ndv
    refine ⟨v, dv, p, room, first, ax, rfl, upd_same, ⟨ts, s2 _ _ upd_same, (hts.mono s1).mono s2⟩, r1, r2, ok, fun H' k hV => ⟨rfl, q H' v (fun b o e => k b o ?_ (s2 _ _ (s1 _ _ e))) hV⟩⟩
    intro e2
    have := s1 _ _ e
    rw [e2, nv] at this
    cases this
theorem sc_lreach : FnScope ["_law_axes_here", "_law_low", "_law_high", "_law_size", "_law_pace"] ["_law_axes_here"] (defScope s_lreach) := ⟨rfl, rfl, rfl, by decide +kernel, rfl, by decide +kernel, by decide +kernel⟩
theorem g_lreach (T : Txt K mg) : Gd P w K mg base CX0 1 "_law_reach" ["_law_axes_here"] spReach := by
  obtain ⟨fd, F⟩ := T.d__law_reach
  refine ⟨_, fd, fok0 F sc_lreach (fun vs H Q E h => ?_) (fun cdv A outer s H vs Q E hr h => ?_), T.g__law_reach, F.kp, bnd F fun _ _ _ _ _ _ us hl => match us, hl with | [_], _ => rfl⟩
  · obtain ⟨l, ax, rfl, _⟩ := h
    rfl
  · obtain ⟨l, ax, rfl, ⟨ts, hl, ht⟩, a1, q⟩ := h
    refine ⟨_, pss_cons (ps_set (i := 1) sc_lreach.nd rfl (.inl rfl) pe_int) (pss_cons (ps_set (i := 2) sc_lreach.nd rfl (.inl rfl) pe_int)
      (pss_cons (ps_for PassesOwn.never rfl (pi_list (pv 0)) (pg_tup rfl (pgs_cons (pg_name (i := 3) sc_lreach.nd rfl (.inl rfl)) (pgs_cons (pg_name (i := 4) sc_lreach.nd rfl (.inl rfl)) pgs_nil)))
        (pss_cons (ps_set (i := 1) sc_lreach.nd rfl (.inl rfl) (pe_op op_add (pv 1) (pe_callB (call_min2 rfl) (by rfl) T.f_min (by decide +kernel) (pa_cons pe_int (pa_cons (pe_op op_mul (pv 4) (pe_op op_sub (pv 3) pe_int)) pa_nil)))))
        (pss_one (ps_set (i := 2) sc_lreach.nd rfl (.inl rfl) (pe_op op_add (pv 2) (pe_callB (call_max2 rfl) (by rfl) T.f_max (by decide +kernel) (pa_cons pe_int (pa_cons (pe_op op_mul (pv 4) (pe_op op_sub (pv 3) pe_int)) pa_nil))))))))
      (pss_one (ps_ret (pe_tup (pa_cons (pv 1) (pa_cons (pv 2) pa_nil))))))), ?_⟩
    refine ⟨_, rfl, l, rfl, ⟨_, sq hl⟩, for_list (K := K) (a := l) (xs := ts.map V.ref) (fun i σ H' => ∃ v3 v4, σ = [some (.ref l), some (.int (lowA (ax.take i))), some (.int (highA (ax.take i))), v3, v4] ∧ H' = H) ⟨none, none, rfl, rfl⟩ (fun i σ H' _ ⟨_, _, _, e⟩ => by rw [e]; exact sq hl) ?_ ?_⟩
    · rintro i y σ H' hi ⟨v3, v4, rfl, rfl⟩
      obtain ⟨t, z, rfl, ht2, hz2, e⟩ := ht.at_ hi
      have b := a1 _ (at_mem hz2)
      refine ⟨t, _, rfl, sqt e, rfl, _, _, rfl, _, _, rfl, rfl, ?_⟩
      refine ⟨_, rfl, _, rfl, _, rfl, _, _, rfl, rfl, _, _, rfl, rfl, .inr ⟨by omega, by omega⟩, _, _, rfl, _, _, rfl, rfl, ?_⟩
      refine ⟨_, rfl, _, rfl, _, rfl, _, _, rfl, rfl, _, _, rfl, rfl, .inr ⟨by omega, by omega⟩, _, _, rfl, _, _, rfl, rfl, ?_⟩
      refine ⟨some (.int z.1), some (.int z.2), ?_, rfl⟩
      rw [low_more hz2, high_more hz2]
      rfl
    · rintro σ H' ⟨v3, v4, rfl, rfl⟩
      rw [List.length_map, ht.1, List.take_length]
      exact ⟨_, rfl, _, rfl, (by show 2 ≤ sizeLine; decide), fun t nt => q _ t (same_new nt) nt upd_same⟩
theorem sc_lsame : FnScope ["_law_found", "_law_views_here", "_law_one", "_law_other"] ["_law_found", "_law_views_here"] (defScope s_lsame) := ⟨rfl, rfl, rfl, by decide +kernel, rfl, by decide +kernel, by decide +kernel⟩
theorem g_lsame (T : Txt K mg) : Gd P w K mg base CX0 1 "_law_same" ["_law_found", "_law_views_here"] (spSame K) := by
  obtain ⟨fd, F⟩ := T.d__law_same
  refine ⟨_, fd, fok0 F sc_lsame (fun vs H Q E h => ?_) (fun cdv A outer s H vs Q E hr h => ?_), T.g__law_same, F.kp, bnd F fun _ _ _ _ _ _ us hl => match us, hl with | [_, _], _ => rfl⟩
  · obtain ⟨a, b, us, rfl, _⟩ := h
    rfl
  · obtain ⟨a, b, us, rfl, ha, hb, hv, q⟩ := h
    refine ⟨_, pss_cons (ps_if (PW.pt (pw_or (pt_not (pt_val (pe_callB call_isi (by rfl) T.f_isinstance (by decide +kernel) (pa_cons (pv 0) (pa_cons (pe_bltn (v := .ty "list") (by rfl) T.f_list (by decide +kernel) rfl) pa_nil)))))
        (pw_or1 (pt_cmpR op_ne (pe_callB call_len_seq (by rfl) T.f_len PySem.boot_len (pa_cons (pv 0) pa_nil)) (pe_callB call_len_seq (by rfl) T.f_len PySem.boot_len (pa_cons (pv 1) pa_nil)) (nomark _))))) pss_never pss_nil)
      (pss_cons (ps_for PassesOwn.never rfl (pi_zip (by rfl) T.f_zip (pa_cons (pv 0) (pa_cons (pv 1) pa_nil))) (pg_tup rfl (pgs_cons (pg_name (i := 2) sc_lsame.nd rfl (.inl rfl)) (pgs_cons (pg_name (i := 3) sc_lsame.nd rfl (.inl rfl)) pgs_nil)))
        (pss_cons (ps_if (PW.pt (pw_or (pt_not (pt_val (pe_callB call_isi (by rfl) T.f_isinstance (by decide +kernel) (pa_cons (pv 2) (pa_cons (pe_glob (v := .ref (ga K "View")) (by rfl) T.g_View rfl) pa_nil)))))
            (pw_or1 (pt_cmpR op_ne (pe_fld (pv 2) rfl) (pe_fld (pv 3) rfl) (nomark _))))) pss_never pss_nil)
        (pss_one (ps_if (PW.pt (pw_or (pt_cmpR op_ne (pe_fld (pv 2) rfl) (pe_fld (pv 3) rfl) (nomark _))
            (pw_or1 (pt_cmpR (op_neD hr.units) (pe_fld (pv 2) rfl) (pe_fld (pv 3) rfl) (nomark _))))) pss_never pss_nil))))
      (pss_one (ps_ret pe_bl))), ?_⟩
    refine ⟨_, rfl, _, _, _, _, true, rfl, .ty "list", .base (.lst ha), kit_ty (by decide +kernel), true, rfl, iteF ?_⟩
    refine ⟨_, rfl, a, _, rfl, .inl (sq ha), _, rfl, b, _, rfl, .inl (sq hb), rfl, _, rfl, ?_⟩
    rw [show (!decide (V.int (((us.map V.ref).length : Nat) : Int) = V.int (((us.map V.ref).length : Nat) : Int))) = false by simp]
    refine iteF ?_
    refine ⟨_, rfl, _, rfl, a, b, _, _, rfl, sq ha, sq hb, ?_⟩
    refine RZ.for_zipL (K := K) (a := a) (b := b) (xs := us.map V.ref) (ys := us.map V.ref) rfl (fun i σ H' => ∃ v2 v3, σ = [some (.ref a), some (.ref b), v2, v3] ∧ Same H H') ⟨none, none, rfl, Same.refl H⟩
      (fun i σ H' ⟨_, _, _, s1⟩ => ⟨s1.seq (sq ha), s1.seq (sq hb)⟩) ?_ ?_
    · rintro i x y t σ H' hx hy ⟨v2, v3, rfl, s1⟩ nt
      obtain ⟨u, hu, rfl⟩ := map_at hx
      obtain ⟨u2, hu2, rfl⟩ := map_at hy
      have eu : u2 = u := Option.some.inj (hu2.symm.trans hu)
      subst eu
      obtain ⟨room, first, ax, hV⟩ := hv u2 (at_mem hu)
      have s2 : Same H (upd H' t (.tup [.ref u2, .ref u2])) := s1.trans (same_new nt)
      obtain ⟨ok, dv, l, hv2, ts, hl, hts⟩ := hV.mono s2
      refine ⟨t, _, rfl, .inl (.inl upd_same), rfl, _, _, rfl, _, _, rfl, rfl, ?_⟩
      refine ⟨_, rfl, _, _, _, _, true, rfl, .own _, .base (.ins hv2 T.c_View T.ext.vC.1 T.ext.hn T.ext.ht T.ext.vC.2), T.ext.vv, true, rfl, iteF ?_⟩
      refine ⟨_, rfl, u2, _, dv, _, _, rfl, hv2, T.c_View, T.n_View_room, vf_room _ _ _, _, rfl, u2, _, dv, _, _, rfl, hv2, T.c_View, T.n_View_room, vf_room _ _ _, rfl, _, rfl, ?_⟩
      rw [show (!decide (V.int room = V.int room)) = false by simp]
      refine iteF ?_
      refine ⟨_, rfl, u2, _, dv, _, _, rfl, hv2, T.c_View, T.n_View_first, vf_first _ _ _, _, rfl, u2, _, dv, _, _, rfl, hv2, T.c_View, T.n_View_first, vf_first _ _ _, rfl, _, rfl, ?_⟩
      rw [show (!decide (V.int first = V.int first)) = false by simp]
      refine iteF ?_
      refine ⟨_, rfl, u2, _, dv, _, _, rfl, hv2, T.c_View, T.n_View_axes, vf_axes _ _ _, _, rfl, u2, _, dv, _, _, rfl, hv2, T.c_View, T.n_View_axes, vf_axes _ _ _, ?_⟩
      refine ⟨.list (dAx ax), .list (dAx ax), .lst (sq hl) (dp_ax hts), .lst (sq hl) (dp_ax hts), shaped_ax ax, shaped_ax ax, false, by rw [eqv_self (shaped_ax ax)]; rfl, iteF ?_⟩
      exact ⟨_, _, rfl, s2⟩
    · rintro σ H' ⟨v2, v3, rfl, s1⟩
      exact q H' s1
end
end K81
/-! The law's sizes and axes. -/
namespace K81
open PySem PySem.Spec PyProof.Rows L2 He
def SzOk (sz : List Int) : Prop := (∀ s ∈ sz, 1 ≤ s ∧ s ≤ 60) ∧ cntL sz ≤ 60 ∧ sz.length ≤ 4
def PaceOk (q : Int × Int) : Prop := 1 ≤ q.1 ∧ q.1 ≤ 60 ∧ -240 ≤ q.2 * (q.1 - 1) ∧ q.2 * (q.1 - 1) ≤ 240
theorem pick8 {d : Int} (h0 : 0 ≤ d) (h1 : d < 8) : ∃ s : Int, atI [V.int 1, .int 2, .int 3, .int 4, .int 5, .int 7, .int 12, .int 2] d = some (.int s) ∧ 1 ≤ s ∧ s ≤ 12 := by
  have h : d = 0 ∨ d = 1 ∨ d = 2 ∨ d = 3 ∨ d = 4 ∨ d = 5 ∨ d = 6 ∨ d = 7 := by omega
  rcases h with rfl | rfl | rfl | rfl | rfl | rfl | rfl | rfl
  all_goals exact ⟨_, rfl, by decide, by decide⟩
theorem small_pace {p m : Int} (h1 : -4 ≤ p) (h2 : p ≤ 4) (m0 : 0 ≤ m) (m1 : m ≤ 59) : -240 ≤ p * m ∧ p * m ≤ 240 := by
  have h : p = -4 ∨ p = -3 ∨ p = -2 ∨ p = -1 ∨ p = 0 ∨ p = 1 ∨ p = 2 ∨ p = 3 ∨ p = 4 := by omega
  rcases h with rfl | rfl | rfl | rfl | rfl | rfl | rfl | rfl | rfl <;> omega
theorem pace_ok {inner size p : Int} (i1 : 1 ≤ inner) (s1 : 1 ≤ size) (s2 : size ≤ 60) (h : inner * size ≤ 60) (hp : p = inner ∨ p = 0 - inner ∨ (-4 ≤ p ∧ p ≤ 4)) : PaceOk (size, p) := by
  refine ⟨s1, s2, ?_⟩
  show -240 ≤ p * (size - 1) ∧ p * (size - 1) ≤ 240
  have e : inner * (size - 1) = inner * size - inner := by rw [Int.mul_sub, Int.mul_one]
  have n0 : 0 ≤ inner * (size - 1) := Int.mul_nonneg (by omega) (by omega)
  rcases hp with rfl | rfl | ⟨h1, h2⟩
  · omega
  · have e2 : (0 - inner) * (size - 1) = - (inner * (size - 1)) := by rw [Int.zero_sub, Int.neg_mul]
    omega
  · exact small_pace h1 h2 (by omega) (by omega)
theorem pick_pace {d inner c : Int} (h0 : 0 ≤ d) (h1 : d < 8) (c0 : 0 ≤ c) (c1 : c < 9) : ∃ p : Int, atI [V.int inner, .int (0 - inner), .int 0, .int 1, .int (-1), .int 2, .int inner, .int (c - 4)] d = some (.int p) ∧ (p = inner ∨ p = 0 - inner ∨ (-4 ≤ p ∧ p ≤ 4)) := by
  have h : d = 0 ∨ d = 1 ∨ d = 2 ∨ d = 3 ∨ d = 4 ∨ d = 5 ∨ d = 6 ∨ d = 7 := by omega
  rcases h with rfl | rfl | rfl | rfl | rfl | rfl | rfl | rfl
  · exact ⟨_, rfl, .inl rfl⟩
  · exact ⟨_, rfl, .inr (.inl rfl)⟩
  · exact ⟨_, rfl, .inr (.inr ⟨by decide, by decide⟩)⟩
  · exact ⟨_, rfl, .inr (.inr ⟨by decide, by decide⟩)⟩
  · exact ⟨_, rfl, .inr (.inr ⟨by decide, by decide⟩)⟩
  · exact ⟨_, rfl, .inr (.inr ⟨by decide, by decide⟩)⟩
  · exact ⟨_, rfl, .inl rfl⟩
  · exact ⟨_, rfl, .inr (.inr ⟨by omega, by omega⟩)⟩
def spLSizes (K : PySem.W.Frag) : Sp := fun vs H Q _ => ∃ (a : Addr) (ns : List Int) (at_ : Int), vs = [.ref a, .int at_] ∧ SqL K H a (ns.map V.int) ∧ ns.length ≤ 63 ∧ 0 ≤ at_ ∧ at_ ≤ 100 ∧
  ∀ (H' : Hp) (t l : Addr) (sz : List Int), Same H H' → H' l = some (.lst (sz.map V.int)) → H' t = some (.tup [.ref l, .int (cntL sz)]) → SzOk sz → sz.length ≤ 3 → Q (.ref t) H'
def spLAxes (K : PySem.W.Frag) : Sp := fun vs H Q _ => ∃ (a l : Addr) (ns sz : List Int) (at_ : Int), vs = [.ref a, .int at_, .ref l] ∧ SqL K H a (ns.map V.int) ∧ ns.length ≤ 63 ∧ 0 ≤ at_ ∧ at_ ≤ 100 ∧ H l = some (.lst (sz.map V.int)) ∧ SzOk sz ∧
  ∀ (H' : Hp) (p : Addr) (ax : Ax), Same H H' → AxAt H' p ax → ax.map (·.1) = sz → (∀ q ∈ ax, PaceOk q) → Q (.ref p) H'
section
variable {P : Program} {w : World} {K : PySem.W.Frag} {mg : Str → Option Value} {base : Heap}
theorem sc_lsizes : FnScope ["_law_script", "_law_at", "_law_sizes_here", "_law_count", "_law_k", "_law_size"] ["_law_script", "_law_at"] (defScope s_lsizes) := ⟨rfl, rfl, rfl, by decide +kernel, rfl, by decide +kernel, by decide +kernel⟩
theorem g_lsizes (T : Txt K mg) (GD : Gd P w K mg base CX0 1 "_law_draw" ["_law_script", "_law_k", "_law_many"] (spDraw K)) : Gd P w K mg base CX0 2 "_law_sizes" ["_law_script", "_law_at"] (spLSizes K) := by
  obtain ⟨fd, F⟩ := T.d__law_sizes
  refine ⟨_, fd, fok0 F sc_lsizes (fun vs H Q E h => ?_) (fun cdv A outer s H vs Q E hr h => ?_), T.g__law_sizes, F.kp, bnd F fun _ _ _ _ _ _ us hl => match us, hl with | [_, _], _ => rfl⟩
  · obtain ⟨a, ns, at_, rfl, _⟩ := h
    rfl
  · obtain ⟨a, ns, at_, rfl, hS, hlen, k0, k1, q⟩ := h
    refine ⟨_, pss_cons (ps_set (i := 2) sc_lsizes.nd rfl (.inl rfl) (pe_lst pa_nil)) (pss_cons (ps_set (i := 3) sc_lsizes.nd rfl (.inl rfl) pe_int)
      (pss_cons (ps_for PassesOwn.never rfl (pi_range1 (by rfl) T.f_range (pa_cons (pe_g GD hr pass0 (pa_cons (pv 0) (pa_cons (pv 1) (pa_cons pe_int pa_nil)))) pa_nil)) (pg_name (i := 4) sc_lsizes.nd rfl (.inl rfl))
        (pss_cons (ps_set (i := 5) sc_lsizes.nd rfl (.inl rfl) (pe_ix ix_list (pe_lst (pa_cons pe_int (pa_cons pe_int (pa_cons pe_int (pa_cons pe_int (pa_cons pe_int (pa_cons pe_int (pa_cons pe_int (pa_cons pe_int pa_nil)))))))))
          (pe_g GD hr pass0 (pa_cons (pv 0) (pa_cons (pe_op op_add (pe_op op_add (pv 1) pe_int) (pv 4)) (pa_cons pe_int pa_nil)))) (fun _ _ => rfl)))
        (pss_one (ps_if (pt_cmpR op_le (pe_op op_mul (pv 3) (pv 5)) pe_int (nomark _))
          (pss_cons (ps_set (i := 3) sc_lsizes.nd rfl (.inl rfl) (pe_op op_mul (pv 3) (pv 5)))
          (pss_one (ps_expr (pe_bm PySem.F.plainAttrs_list PySem.F.slot_list_append PySem.F.type_list_append mt_append (pv 2) (pa_cons (pv 5) pa_nil))))) pss_nil))))
      (pss_one (ps_ret (pe_tup (pa_cons (pv 2) (pa_cons (pv 3) pa_nil))))))), ?_⟩
    refine ⟨Nat.zero_le _, fun l nl => ?_⟩
    have s0 : Same H (upd H l (.lst [])) := same_new nl
    refine ⟨_, rfl, _, rfl, a, ns, at_, 4, rfl, s0.seq hS, hlen, k0, by omega, by decide, fun d d0 d1 => ?_⟩
    refine ⟨d, rfl, by omega, by omega, ?_⟩
    refine for_range (lo := 0) (n := d.toNat) (fun k σ H' => ∃ (sz : List Int) (v4 v5 : Option V), σ = [some (.ref a), some (.int at_), some (.ref l), some (.int (cntL sz)), v4, v5] ∧ Same H H' ∧ H' l = some (.lst (sz.map V.int)) ∧ (∀ s ∈ sz, 1 ≤ s ∧ s ≤ 60) ∧ cntL sz ≤ 60 ∧ sz.length ≤ k)
      ⟨[], none, none, rfl, s0, upd_same, (fun s hs => by cases hs), (by decide), Nat.le_refl _⟩ ?_ ?_
    · rintro k σ H' hk ⟨sz, v4, v5, rfl, s1, hl, z1, z2, z3⟩
      refine ⟨(by show 8 ≤ sizeLine; decide), fun p np => ?_⟩
      have s2 : Same H (upd H' p (.lst [.int 1, .int 2, .int 3, .int 4, .int 5, .int 7, .int 12, .int 2])) := s1.trans (same_new np)
      refine ⟨_, rfl, _, rfl, _, _, rfl, rfl, _, rfl, _, _, rfl, rfl, a, ns, _, 8, rfl, s2.seq hS, hlen, by omega, by omega, by decide, fun e e0 e1 => ?_⟩
      obtain ⟨sv, es, b1, b2⟩ := pick8 e0 e1
      refine ⟨p, _, e, _, rfl, rfl, sq upd_same, es, ?_⟩
      have c1 := cntL_pos (fun n hn => (z1 n hn).1)
      have hl2 : (upd H' p (.lst [.int 1, .int 2, .int 3, .int 4, .int 5, .int 7, .int 12, .int 2])) l = some (.lst (sz.map V.int)) := same_new np _ _ hl
      refine ⟨_, rfl, _, rfl, _, _, rfl, rfl, .inl ⟨by omega, by omega⟩, _, _, rfl, rfl, _, rfl, ite2 (fun c => ?_) (fun c => ?_)⟩
      · have c2 : cntL sz * sv ≤ 60 := of_decide_eq_true c
        refine ⟨_, rfl, _, rfl, _, _, rfl, rfl, .inl ⟨by omega, by omega⟩, ?_⟩
        refine ⟨_, rfl, .inl ⟨rfl, _, sq hl2⟩, _, rfl, l, _, _, rfl, rfl, hl2, smallt (m := 9) (by rw [List.length_map]; omega), ?_⟩
        refine ⟨sz ++ [sv], some (.int (0 + (k : Int))), some (.int sv), ?_, same_mut s2 nl, by rw [upd_same, List.map_append]; rfl, fun x hx => ?_, ?_, ?_⟩
        · rw [cntL_append, cntL_one]
          rfl
        · rcases List.mem_append.mp hx with hx | hx
          · exact z1 x hx
          · have : x = sv := by simpa using hx
            omega
        · rw [cntL_append, cntL_one]
          exact c2
        · rw [List.length_append]
          show sz.length + 1 ≤ k + 1
          omega
      · exact ⟨sz, some (.int (0 + (k : Int))), some (.int sv), rfl, s2, hl2, z1, z2, by omega⟩
    · rintro σ H' ⟨sz, v4, v5, rfl, s1, hl, z1, z2, z3⟩
      refine ⟨_, rfl, _, rfl, (by show 2 ≤ sizeLine; decide), fun t nt => ?_⟩
      exact q _ t l sz (s1.trans (same_new nt)) (same_new nt _ _ hl) upd_same ⟨z1, z2, by omega⟩ (by omega)
theorem sc_laxes : FnScope ["_law_script", "_law_at", "_law_sizes_here", "_law_axes_here", "_law_inner", "_law_k", "_law_size", "_law_cell", "_law_pace"] ["_law_script", "_law_at", "_law_sizes_here"] (defScope s_laxes) := ⟨rfl, rfl, rfl, by decide +kernel, rfl, by decide +kernel, by decide +kernel⟩
theorem g_laxes (T : Txt K mg) (GD : Gd P w K mg base CX0 1 "_law_draw" ["_law_script", "_law_k", "_law_many"] (spDraw K)) : Gd P w K mg base CX0 2 "_law_axes" ["_law_script", "_law_at", "_law_sizes_here"] (spLAxes K) := by
  obtain ⟨fd, F⟩ := T.d__law_axes
  refine ⟨_, fd, fok0 F sc_laxes (fun vs H Q E h => ?_) (fun cdv A outer s H vs Q E hr h => ?_), T.g__law_axes, F.kp, bnd F fun _ _ _ _ _ _ us hl => match us, hl with | [_, _, _], _ => rfl⟩
  · obtain ⟨a, l, ns, sz, at_, rfl, _⟩ := h
    rfl
  · obtain ⟨a, l, ns, sz, at_, rfl, hS, hlen, k0, k1, hl, ⟨z1, z2, z3⟩, q⟩ := h
    refine ⟨_, pss_cons (ps_set (i := 3) sc_laxes.nd rfl (.inl rfl) (pe_lst pa_nil)) (pss_cons (ps_set (i := 4) sc_laxes.nd rfl (.inl rfl) pe_int)
      (pss_cons (ps_for PassesOwn.never rfl (pi_range1 (by rfl) T.f_range (pa_cons (pe_callB call_len_seq (by rfl) T.f_len PySem.boot_len (pa_cons (pv 2) pa_nil)) pa_nil)) (pg_name (i := 5) sc_laxes.nd rfl (.inl rfl))
        (pss_cons (ps_set (i := 6) sc_laxes.nd rfl (.inl rfl) (pe_ix ix_list (pv 2) (pe_op op_sub (pe_op op_sub (pe_callB call_len_seq (by rfl) T.f_len PySem.boot_len (pa_cons (pv 2) pa_nil)) pe_int) (pv 5)) (fun _ _ => rfl)))
        (pss_cons (ps_set (i := 7) sc_laxes.nd rfl (.inl rfl) (pe_g GD hr pass0 (pa_cons (pv 0) (pa_cons (pe_op op_add (pv 1) (pv 5)) (pa_cons (pe_op op_pow pe_int pe_int) pa_nil)))))
        (pss_cons (ps_set (i := 8) sc_laxes.nd rfl (.inl rfl) (pe_ix ix_list (pe_lst (pa_cons (pv 4) (pa_cons (pe_op op_sub pe_int (pv 4)) (pa_cons pe_int (pa_cons pe_int (pa_cons (pe_un un_neg pe_int) (pa_cons pe_int (pa_cons (pv 4)
          (pa_cons (pe_op op_sub (pe_op op_mod (pe_op op_fdiv (pv 7) pe_int) pe_int) pe_int) pa_nil))))))))) (pe_op op_mod (pv 7) pe_int) (fun _ _ => rfl)))
        (pss_cons (ps_set (i := 3) sc_laxes.nd rfl (.inl rfl) (pe_op op_cat (pe_lst (pa_cons (pe_tup (pa_cons (pv 6) (pa_cons (pv 8) pa_nil))) pa_nil)) (pv 3)))
        (pss_one (ps_set (i := 4) sc_laxes.nd rfl (.inl rfl) (pe_op op_mul (pv 4) (pv 6)))))))))
      (pss_one (ps_ret (pv 3))))), ?_⟩
    refine ⟨Nat.zero_le _, fun p0 np0 => ?_⟩
    have s0 : Same H (upd H p0 (.lst [])) := same_new np0
    refine ⟨_, rfl, l, _, rfl, .inl (s0.seq (sq hl)), ?_⟩
    rw [List.length_map]
    refine ⟨(sz.length : Int), rfl, by omega, by omega, ?_⟩
    refine for_range (lo := 0) (n := (sz.length : Int).toNat) (fun k σ H' => ∃ (ax : Ax) (p : Addr) (v5 v6 v7 v8 : Option V), σ = [some (.ref a), some (.int at_), some (.ref l), some (.ref p), some (.int (cntL (sz.drop (sz.length - k)))), v5, v6, v7, v8] ∧ Same H H' ∧ AxAt H' p ax ∧ ax.map (·.1) = sz.drop (sz.length - k) ∧ ∀ z ∈ ax, PaceOk z)
      ⟨[], p0, none, none, none, none, ?_, s0, ⟨[], upd_same, Tups.nil⟩, ?_, fun z hz => by cases hz⟩ ?_ ?_
    · rw [Nat.sub_zero, List.drop_length]
      rfl
    · rw [Nat.sub_zero, List.drop_length]
      rfl
    · rintro k σ H' hk ⟨ax, p, v5, v6, v7, v8, rfl, s1, ⟨ts, hp, hts⟩, em, pk⟩
      have hk2 : k < sz.length := by omega
      have j1 : sz.length - (k + 1) < sz.length := by omega
      have ed : sz.drop (sz.length - (k + 1)) = sz[sz.length - (k + 1)] :: sz.drop (sz.length - k) := by
        have e := List.drop_eq_getElem_cons j1
        rw [e]
        congr 2
        omega
      generalize hsv : sz[sz.length - (k + 1)] = sv at ed
      have svm : sv ∈ sz := by rw [← hsv]; exact List.getElem_mem _
      have svb := z1 sv svm
      have ei : atI (sz.map V.int) ((sz.length : Int) - 1 - (0 + (k : Int))) = some (.int sv) := by
        rw [at_cell (by omega) (by omega)]
        have e1 : ((sz.length : Int) - 1 - (0 + (k : Int))).toNat = sz.length - (k + 1) := by omega
        rw [e1, List.getD_eq_getElem?_getD, List.getElem?_eq_getElem j1, hsv]
        rfl
      generalize hin : cntL (sz.drop (sz.length - k)) = inner
      have allp : ∀ n ∈ sz, 1 ≤ n := fun n hn => (z1 n hn).1
      have i1 : 1 ≤ inner := by
        rw [← hin]
        exact cntL_pos fun n hn => allp n (List.mem_of_mem_drop hn)
      have i2 : inner * sv ≤ 60 := by
        have e : cntL (sz.drop (sz.length - (k + 1))) = sv * inner := by rw [ed, cntL_cons, hin]
        have le : cntL (sz.drop (sz.length - (k + 1))) ≤ cntL (sz.take (sz.length - (k + 1)) ++ sz.drop (sz.length - (k + 1))) := cntL_part (fun n hn => allp n (List.mem_of_mem_take hn)) (fun n hn => allp n (List.mem_of_mem_drop hn))
        rw [List.take_append_drop, e, Int.mul_comm] at le
        omega
      have i3 : inner ≤ 60 := by
        have : inner * 1 ≤ inner * sv := Int.mul_le_mul_of_nonneg_left svb.1 (by omega)
        omega
      refine ⟨_, rfl, _, rfl, l, _, rfl, .inl (s1.seq (sq hl)), _, _, rfl, rfl, _, rfl, _, _, rfl, rfl, l, _, _, _, rfl, rfl, s1.seq (sq hl), (by rw [List.length_map]; exact ei), ?_⟩
      refine ⟨_, rfl, _, rfl, _, rfl, _, _, rfl, rfl, _, _, rfl, rfl, ⟨by decide, by decide, by decide⟩, a, ns, _, _, rfl, s1.seq hS, hlen, by omega, by omega, (by show (0 : Int) < 10 ^ (6 : Int).toNat; decide), fun d d0 d1 => ?_⟩
      have m0 : 0 ≤ d / 8 % 9 := Int.emod_nonneg _ (by decide)
      have m1 : d / 8 % 9 < 9 := Int.emod_lt_of_pos _ (by decide)
      have r0 : 0 ≤ d % 8 := Int.emod_nonneg _ (by decide)
      have r1 : d % 8 < 8 := Int.emod_lt_of_pos _ (by decide)
      obtain ⟨pc, ep, hpc⟩ := pick_pace (inner := inner) r0 r1 m0 m1
      refine ⟨_, rfl, _, rfl, _, _, rfl, rfl, _, rfl, _, rfl, _, rfl, _, _, rfl, rfl, (by show CDiv d 8; exact ⟨by decide, by decide⟩), _, _, rfl, rfl, (by show (0 : Int) < 9; decide), _, _, rfl, rfl, (by show 8 ≤ sizeLine; decide), fun pl npl => ?_⟩
      refine ⟨_, rfl, _, _, rfl, rfl, (by show (0 : Int) < 8; decide), pl, _, _, _, rfl, rfl, sq upd_same, ep, ?_⟩
      have s2 : Same H' (upd H' pl (.lst [.int inner, .int (0 - inner), .int 0, .int 1, .int (-1), .int 2, .int inner, .int (d / 8 % 9 - 4)])) := same_new npl
      generalize upd H' pl (.lst [.int inner, .int (0 - inner), .int 0, .int 1, .int (-1), .int 2, .int inner, .int (d / 8 % 9 - 4)]) = J2 at s2 ⊢
      refine ⟨_, rfl, _, rfl, (by show 2 ≤ sizeLine; decide), fun t nt => ?_⟩
      have s3 : Same J2 (upd J2 t (.tup [.int sv, .int pc])) := same_new nt
      have ht : (upd J2 t (.tup [.int sv, .int pc])) t = some (.tup [.int sv, .int pc]) := upd_same
      generalize upd J2 t (.tup [.int sv, .int pc]) = J3 at s3 ht ⊢
      refine ⟨(by show 1 ≤ sizeLine; decide), fun l1 nl1 => ?_⟩
      have s4 : Same J3 (upd J3 l1 (.lst [.ref t])) := same_new nl1
      have hl1 : (upd J3 l1 (.lst [.ref t])) l1 = some (.lst [.ref t]) := upd_same
      generalize upd J3 l1 (.lst [.ref t]) = J4 at s4 hl1 ⊢
      have s24 := (s2.trans s3).trans s4
      have lts : ts.length ≤ 4 := by
        have e1 := hts.1
        have e2 := congrArg List.length em
        rw [List.length_map, List.length_drop] at e2
        omega
      refine ⟨_, rfl, l1, p, _, _, rfl, rfl, hl1, s24 _ _ hp, small (m := 9) (by rw [List.length_map]; show 1 + ts.length ≤ 9; omega), fun p2 np2 => ?_⟩
      have s5 : Same J4 (upd J4 p2 (.lst ([.ref t] ++ ts.map V.ref))) := same_new np2
      refine ⟨_, rfl, _, rfl, _, _, rfl, rfl, .inl ⟨by omega, by omega⟩, ?_⟩
      refine ⟨(sv, pc) :: ax, p2, some (.int (0 + (k : Int))), some (.int sv), some (.int d), some (.int pc), ?_, s1.trans (s24.trans s5), ⟨t :: ts, upd_same, ?_⟩, ?_, fun z hz => ?_⟩
      · rw [ed, cntL_cons, hin, Int.mul_comm sv inner]
        rfl
      · exact ((hts.mono s24).mono s5).cons (s5 _ _ (s4 _ _ ht))
      · rw [ed]
        show sv :: ax.map (·.1) = _
        rw [em]
      · rcases List.mem_cons.mp hz with rfl | hz
        · exact pace_ok i1 svb.1 svb.2 i2 hpc
        · exact pk z hz
    · rintro σ H' ⟨ax, p, v5, v6, v7, v8, rfl, s1, hax, em, pk⟩
      have e0 : sz.length - (sz.length : Int).toNat = 0 := by omega
      rw [e0, List.drop_zero] at em
      exact ⟨_, rfl, q H' p ax s1 hax em pk⟩
end
end K81
/-! The law's two views. -/
namespace K81
open PySem PySem.Spec PyProof.Rows L2 He
theorem so_rev {sz : List Int} (h : SzOk sz) : SzOk sz.reverse := ⟨fun s hs => h.1 s (List.mem_reverse.mp hs), by rw [cntL_reverse]; exact h.2.1, by rw [List.length_reverse]; exact h.2.2⟩
theorem so_c {sz : List Int} (h : SzOk sz) : 1 ≤ cntL sz ∧ cntL sz ≤ 60 := ⟨cntL_pos fun n hn => (h.1 n hn).1, h.2.1⟩
theorem so_1 {c : Int} (h : 1 ≤ c ∧ c ≤ 60) : SzOk [c] := ⟨fun s hs => by
  have e : s = c := by simpa using hs
  rw [e]
  exact h, by rw [cntL_one]; exact h.2, by show 1 ≤ 4; decide⟩
theorem cnt_1c (c : Int) : cntL [1, c] = c := by rw [cntL_cons, cntL_one, Int.one_mul]
theorem cnt_c1 (c : Int) : cntL [c, 1] = c := by rw [cntL_cons, cntL_one, Int.mul_one]
theorem so_1c {c : Int} (h : 1 ≤ c ∧ c ≤ 60) : SzOk [1, c] := ⟨fun s hs => by
  have e : s = 1 ∨ s = c := by simpa using hs
  rcases e with rfl | rfl
  · exact ⟨by decide, by decide⟩
  · exact h, by rw [cnt_1c]; exact h.2, by show 2 ≤ 4; decide⟩
theorem so_c1 {c : Int} (h : 1 ≤ c ∧ c ≤ 60) : SzOk [c, 1] := ⟨fun s hs => by
  have e : s = c ∨ s = 1 := by simpa using hs
  rcases e with rfl | rfl
  · exact h
  · exact ⟨by decide, by decide⟩, by rw [cnt_c1]; exact h.2, by show 2 ≤ 4; decide⟩
theorem cnt_s1 (sz : List Int) : cntL (sz ++ [1]) = cntL sz := by rw [cntL_append, cntL_one, Int.mul_one]
theorem so_s1 {sz : List Int} (h : SzOk sz) (h3 : sz.length ≤ 3) : SzOk (sz ++ [1]) := ⟨fun s hs => by
  rcases List.mem_append.mp hs with hs | hs
  · exact h.1 s hs
  · have e : s = 1 := by simpa using hs
    rw [e]
    exact ⟨by decide, by decide⟩, by rw [cnt_s1]; exact h.2.1, by rw [List.length_append]; show sz.length + 1 ≤ 4; omega⟩
theorem span_le : ∀ {ax : Ax}, (∀ q ∈ ax, PaceOk q) → highA ax - lowA ax ≤ 240 * (ax.length : Int) ∧ lowA ax ≤ 0 ∧ 0 ≤ highA ax
  | [], _ => by decide
  | p :: r, h => by
    have ih := span_le (ax := r) fun q hq => h q (List.mem_cons_of_mem _ hq)
    obtain ⟨p1, p2, p3, p4⟩ := h p (List.mem_cons_self ..)
    have e1 : lowA (p :: r) = mn (p.2 * (p.1 - 1)) + lowA r := by unfold lowA; rw [List.map_cons, List.sum_cons]
    have e2 : highA (p :: r) = mx (p.2 * (p.1 - 1)) + highA r := by unfold highA; rw [List.map_cons, List.sum_cons]
    rw [e1, e2, List.length_cons]
    generalize p.2 * (p.1 - 1) = A at *
    unfold mn mx
    split <;> split <;> omega
def sel {α : Type} (k : Nat) (x y : α) : α := if k = 0 then x else y
theorem at_sel {u v : V} {k : Nat} (h : k < 2) : atI [u, v] (0 + (k : Int)) = some (sel k u v) := by
  have e : k = 0 ∨ k = 1 := by omega
  rcases e with rfl | rfl <;> rfl
theorem sel_ref {k : Nat} {a b : Addr} : sel k (V.ref a) (V.ref b) = V.ref (sel k a b) := by
  unfold sel
  split <;> rfl
theorem pick6 {d : Int} {u1 u2 u3 u4 u5 u6 : Addr} (h0 : 0 ≤ d) (h1 : d < 6) {p : Addr → Prop} (q1 : p u1) (q2 : p u2) (q3 : p u3) (q4 : p u4) (q5 : p u5) (q6 : p u6) :
    ∃ u, atI [V.ref u1, .ref u2, .ref u3, .ref u4, .ref u5, .ref u6] d = some (.ref u) ∧ p u := by
  have h : d = 0 ∨ d = 1 ∨ d = 2 ∨ d = 3 ∨ d = 4 ∨ d = 5 := by omega
  rcases h with rfl | rfl | rfl | rfl | rfl | rfl
  · exact ⟨_, rfl, q1⟩
  · exact ⟨_, rfl, q2⟩
  · exact ⟨_, rfl, q3⟩
  · exact ⟨_, rfl, q4⟩
  · exact ⟨_, rfl, q5⟩
  · exact ⟨_, rfl, q6⟩
def spLViews (K : PySem.W.Frag) : Sp := fun vs H Q _ => ∃ (a : Addr) (ns : List Int), vs = [.ref a] ∧ SqL K H a (ns.map V.int) ∧ ns.length ≤ 63 ∧
  ∀ (H' : Hp) (t t1 t2 l1 l2 : Addr) (room g1 g2 : Int) (ax bx : Ax), Same H H' → H' t = some (.tup [.int room, .ref t1, .ref t2]) → H' t1 = some (.tup [.int g1, .ref l1]) → H' t2 = some (.tup [.int g2, .ref l2]) → AxAt H' l1 ax → AxAt H' l2 bx →
    VOk room g1 ax → VOk room g2 bx → cnt ax = cnt bx → cnt ax ≤ 60 → 1 ≤ room → room ≤ 2000 → Q (.ref t) H'
section
variable {P : Program} {w : World} {K : PySem.W.Frag} {mg : Str → Option Value} {base : Heap}
def NV : List Str := ["_law_script", "_law_sizes_here", "_law_count", "_law_others", "_law_both", "_law_reach_here", "_law_low", "_law_high", "_law_room", "_law_found", "_law_k", "_law_axes_here"]
theorem sc_lviews : FnScope ["_law_script", "_law_sizes_here", "_law_count", "_law_others", "_law_both", "_law_reach_here", "_law_low", "_law_high", "_law_room", "_law_found", "_law_k", "_law_axes_here"] ["_law_script"] (defScope s_lviews) := ⟨rfl, rfl, rfl, by decide +kernel, rfl, by decide +kernel, by decide +kernel⟩
theorem g_lviews (T : Txt K mg) (GD : Gd P w K mg base CX0 1 "_law_draw" ["_law_script", "_law_k", "_law_many"] (spDraw K)) (GS : Gd P w K mg base CX0 2 "_law_sizes" ["_law_script", "_law_at"] (spLSizes K))
    (GA : Gd P w K mg base CX0 2 "_law_axes" ["_law_script", "_law_at", "_law_sizes_here"] (spLAxes K)) (GR : Gd P w K mg base CX0 1 "_law_reach" ["_law_axes_here"] spReach) : Gd P w K mg base CX0 3 "_law_views" ["_law_script"] (spLViews K) := by
  obtain ⟨fd, F⟩ := T.d__law_views
  refine ⟨_, fd, fok0 F sc_lviews (fun vs H Q E h => ?_) (fun cdv A outer s H vs Q E hr h => ?_), T.g__law_views, F.kp, bnd F fun _ _ _ _ _ _ us hl => match us, hl with | [_], _ => rfl⟩
  · obtain ⟨a, ns, rfl, _⟩ := h
    rfl
  · obtain ⟨a, ns, rfl, hS, hlen, q⟩ := h
    have hr1 : Room 1 _ := hr.mono (by decide)
    refine' ⟨_, pss_cons ?s1 (pss_cons ?s2 (pss_cons ?s3 (pss_cons ?s4 (pss_cons ?s5 (pss_cons ?s6 (pss_cons ?s7 (pss_one ?s8))))))), ?last⟩
    case s1 => exact (ps_asg (pe_g GS hr pass0 (pa_cons (pv 0) (pa_cons pe_int pa_nil))) (pg_tup rfl (pgs_cons (pg_name (i := 1) sc_lviews.nd rfl (.inl rfl)) (pgs_cons (pg_name (i := 2) sc_lviews.nd rfl (.inl rfl)) pgs_nil))))
    case s2 => exact (ps_set (i := 3) sc_lviews.nd rfl (.inl rfl) (pe_ix ix_list (pe_lst (pa_cons (pv 1) (pa_cons (pe_revL (pv 1)) (pa_cons (pe_lst (pa_cons (pv 2) pa_nil)) (pa_cons (pe_lst (pa_cons pe_int (pa_cons (pv 2) pa_nil)))
          (pa_cons (pe_lst (pa_cons (pv 2) (pa_cons pe_int pa_nil))) (pa_cons (pe_op op_cat (pv 1) (pe_lst (pa_cons pe_int pa_nil))) pa_nil))))))) (pe_g GD hr1 pass0 (pa_cons (pv 0) (pa_cons pe_int (pa_cons pe_int pa_nil)))) (fun _ _ => rfl)))
    case s3 => exact (ps_set (i := 4) sc_lviews.nd rfl (.inl rfl) (pe_lst (pa_cons (pe_g GA hr pass0 (pa_cons (pv 0) (pa_cons pe_int (pa_cons (pv 1) pa_nil)))) (pa_cons (pe_g GA hr pass0 (pa_cons (pv 0) (pa_cons pe_int (pa_cons (pv 3) pa_nil)))) pa_nil))))
    case s4 => exact (ps_setLc (i := 5) (own := [("_law_axes_here", 11)]) (g := gName 11) (tt := tYes) (te := tCall spReach [] E0 (tCons (tVar 11) tNil)) rfl sc_lviews.nd rfl rfl (sw_true rfl rfl rfl (by decide +kernel)) (pi_list (pv 4))
          (blkOk_by (N := ["_law_script", "_law_sizes_here", "_law_count", "_law_others", "_law_both", "_law_reach_here", "_law_low", "_law_high", "_law_room", "_law_found", "_law_k", "_law_axes_here"]) (sc := defScope s_lviews) (by decide +kernel))
          (fun _ _ _ _ _ => by exact pg_name (i := 11) sc_lviews.nd rfl (.inl rfl)) (fun _ _ _ _ _ => pts_nil) (fun _ _ _ _ _ => by exact pe_g GR hr1 pass0 (pa_cons (pv 11) pa_nil)))
    case s5 => exact (ps_set (i := 8) sc_lviews.nd rfl (.inl rfl) (pe_op op_add (pe_op op_add pe_int (pe_callB (cr_max rfl) (by rfl) T.f_max (by decide +kernel) (pa_cons
          (pe_lc (own := [("_law_low", 6), ("_law_high", 7)]) (g := gTup K 2 (gCons (gName 6) (gCons (gName 7) gNil))) (tt := tYes) (te := tOp rSubI (tVar 7) (tVar 6)) rfl sc_lviews.nd (pi_list (pv 5))
            (blkOk_by (N := ["_law_script", "_law_sizes_here", "_law_count", "_law_others", "_law_both", "_law_reach_here", "_law_low", "_law_high", "_law_room", "_law_found", "_law_k", "_law_axes_here"]) (sc := defScope s_lviews) (by decide +kernel))
            (fun _ _ _ _ _ => by exact pg_tup rfl (pgs_cons (pg_name (i := 6) sc_lviews.nd rfl (.inl rfl)) (pgs_cons (pg_name (i := 7) sc_lviews.nd rfl (.inl rfl)) pgs_nil))) (fun _ _ _ _ _ => pts_nil) (fun _ _ _ _ _ => by exact pe_op op_sub (pv 7) (pv 6))) pa_nil)))
          (pe_g GD hr1 pass0 (pa_cons (pv 0) (pa_cons pe_int (pa_cons pe_int pa_nil))))))
    case s6 => exact (ps_set (i := 9) sc_lviews.nd rfl (.inl rfl) (pe_lst pa_nil))
    case s7 => exact (ps_for PassesOwn.never rfl (pi_range1 (by rfl) T.f_range (pa_cons pe_int pa_nil)) (pg_name (i := 10) sc_lviews.nd rfl (.inl rfl))
        (pss_cons (ps_asg (pe_ix ix_list (pv 5) (pv 10) (fun _ _ => rfl)) (pg_tup rfl (pgs_cons (pg_name (i := 6) sc_lviews.nd rfl (.inl rfl)) (pgs_cons (pg_name (i := 7) sc_lviews.nd rfl (.inl rfl)) pgs_nil))))
        (pss_one (ps_expr (pe_bm PySem.F.plainAttrs_list PySem.F.slot_list_append PySem.F.type_list_append mt_append (pv 9)
          (pa_cons (pe_tup (pa_cons (pe_op op_sub (pe_g GD hr1 pass0 (pa_cons (pv 0) (pa_cons (pe_op op_add pe_int (pv 10)) (pa_cons (pe_op op_sub (pv 8) (pe_op op_sub (pv 7) (pv 6))) pa_nil)))) (pv 6)) (pa_cons (pe_ix ix_list (pv 4) (pv 10) (fun _ _ => rfl)) pa_nil))) pa_nil))))))
    case s8 => exact (ps_ret (pe_tup (pa_cons (pv 8) (pa_cons (pe_ix ix_list (pv 9) pe_int (fun _ _ => rfl)) (pa_cons (pe_ix ix_list (pv 9) pe_int (fun _ _ => rfl)) pa_nil)))))
    -- the sizes
    refine ⟨_, rfl, a, ns, 2, rfl, hS, hlen, by decide, by decide, fun H1 t0 ls sz s1 hls ht0 zok z3 => ?_⟩
    refine ⟨t0, _, rfl, sqt ht0, rfl, _, _, rfl, _, _, rfl, rfl, ?_⟩
    have cb := so_c zok
    -- the others
    refine ⟨_, rfl, _, rfl, ls, _, rfl, sq hls, fun u2 n2 => ?_⟩
    rw [← List.map_reverse]
    have a2 : Same H1 (upd H1 u2 (.lst (sz.reverse.map V.int))) := same_new n2
    have b2 : (upd H1 u2 (.lst (sz.reverse.map V.int))) u2 = some (.lst (sz.reverse.map V.int)) := upd_same
    generalize upd H1 u2 (.lst (sz.reverse.map V.int)) = J2 at a2 b2 ⊢
    refine ⟨_, rfl, (by show 1 ≤ sizeLine; decide), fun u3 n3 => ?_⟩
    have a3 : Same J2 (upd J2 u3 (.lst [.int (cntL sz)])) := same_new n3
    have b3 : (upd J2 u3 (.lst [.int (cntL sz)])) u3 = some (.lst ([cntL sz].map V.int)) := upd_same
    generalize upd J2 u3 (.lst [.int (cntL sz)]) = J3 at a3 b3 ⊢
    refine ⟨_, rfl, (by show 2 ≤ sizeLine; decide), fun u4 n4 => ?_⟩
    have a4 : Same J3 (upd J3 u4 (.lst [.int 1, .int (cntL sz)])) := same_new n4
    have b4 : (upd J3 u4 (.lst [.int 1, .int (cntL sz)])) u4 = some (.lst ([1, cntL sz].map V.int)) := upd_same
    generalize upd J3 u4 (.lst [.int 1, .int (cntL sz)]) = J4 at a4 b4 ⊢
    refine ⟨_, rfl, (by show 2 ≤ sizeLine; decide), fun u5 n5 => ?_⟩
    have a5 : Same J4 (upd J4 u5 (.lst [.int (cntL sz), .int 1])) := same_new n5
    have b5 : (upd J4 u5 (.lst [.int (cntL sz), .int 1])) u5 = some (.lst ([cntL sz, 1].map V.int)) := upd_same
    generalize upd J4 u5 (.lst [.int (cntL sz), .int 1]) = J5 at a5 b5 ⊢
    have a15 := ((a2.trans a3).trans a4).trans a5
    refine ⟨_, rfl, (by show 1 ≤ sizeLine; decide), fun u0 n0 => ?_⟩
    have a0 : Same J5 (upd J5 u0 (.lst [.int 1])) := same_new n0
    have b0 : (upd J5 u0 (.lst [.int 1])) u0 = some (.lst [.int 1]) := upd_same
    generalize upd J5 u0 (.lst [.int 1]) = J0 at a0 b0 ⊢
    refine ⟨ls, u0, _, _, rfl, rfl, a0 _ _ (a15 _ _ hls), b0, small (m := 9) (by rw [List.length_map]; show sz.length + 1 ≤ 9; omega), fun u6 n6 => ?_⟩
    have a6 : Same J0 (upd J0 u6 (.lst (sz.map V.int ++ [.int 1]))) := same_new n6
    have b6 : (upd J0 u6 (.lst (sz.map V.int ++ [.int 1]))) u6 = some (.lst ((sz ++ [1]).map V.int)) := by rw [upd_same, List.map_append]; rfl
    generalize upd J0 u6 (.lst (sz.map V.int ++ [.int 1])) = J6 at a6 b6 ⊢
    refine ⟨(by show 6 ≤ sizeLine; decide), fun u7 n7 => ?_⟩
    have a7 : Same J6 (upd J6 u7 (.lst [.ref ls, .ref u2, .ref u3, .ref u4, .ref u5, .ref u6])) := same_new n7
    have b7 : (upd J6 u7 (.lst [.ref ls, .ref u2, .ref u3, .ref u4, .ref u5, .ref u6])) u7 = some (.lst [.ref ls, .ref u2, .ref u3, .ref u4, .ref u5, .ref u6]) := upd_same
    generalize upd J6 u7 (.lst [.ref ls, .ref u2, .ref u3, .ref u4, .ref u5, .ref u6]) = J7 at a7 b7 ⊢
    have c5 := (a0.trans a6).trans a7
    have c4 := a5.trans c5
    have c3 := a4.trans c4
    have c2 := a3.trans c3
    have c1 := a2.trans c2
    have sJ : Same H J7 := s1.trans c1
    refine ⟨_, rfl, a, ns, 6, 6, rfl, sJ.seq hS, hlen, by decide, by decide, by decide, fun d d0 d1 => ?_⟩
    obtain ⟨lo, elo, so, hlo, sok, eso⟩ := pick6 (p := fun u => ∃ so : List Int, J7 u = some (.lst (so.map V.int)) ∧ SzOk so ∧ cntL so = cntL sz) d0 d1 (u1 := ls) (u2 := u2) (u3 := u3) (u4 := u4) (u5 := u5) (u6 := u6)
      ⟨sz, c1 _ _ hls, zok, rfl⟩ ⟨sz.reverse, c2 _ _ b2, so_rev zok, cntL_reverse sz⟩ ⟨[cntL sz], c3 _ _ b3, so_1 cb, cntL_one _⟩ ⟨[1, cntL sz], c4 _ _ b4, so_1c cb, cnt_1c _⟩ ⟨[cntL sz, 1], c5 _ _ b5, so_c1 cb, cnt_c1 _⟩ ⟨sz ++ [1], a7 _ _ b6, so_s1 zok z3, cnt_s1 sz⟩
    refine ⟨u7, _, d, _, rfl, rfl, sq b7, elo, ?_⟩
    -- the axes of both
    refine ⟨_, rfl, _, rfl, a, ls, ns, sz, 7, rfl, sJ.seq hS, hlen, by decide, by decide, c1 _ _ hls, zok, fun H2 lA ax s2 hA emA pkA => ?_⟩
    have sJ2 := sJ.trans s2
    refine ⟨_, rfl, _, rfl, a, lo, ns, so, 10, rfl, sJ2.seq hS, hlen, by decide, by decide, s2 _ _ hlo, sok, fun H3 lB bx s3 hB emB pkB => ?_⟩
    have hA3 := hA.mono s3
    refine ⟨(by show 2 ≤ sizeLine; decide), fun pb npb => ?_⟩
    have e1 : Same H3 (upd H3 pb (.lst [.ref lA, .ref lB])) := same_new npb
    have f1 : (upd H3 pb (.lst [.ref lA, .ref lB])) pb = some (.lst [.ref lA, .ref lB]) := upd_same
    generalize upd H3 pb (.lst [.ref lA, .ref lB]) = G1 at e1 f1 ⊢
    have sG1 := (sJ2.trans s3).trans e1
    have hA4 := hA3.mono e1
    have hB4 := hB.mono e1
    have okA : AOk ax ∧ ∀ z ∈ ax, 1 ≤ z.1 ∧ z.1 ≤ 1000000000 := by
      have l1 : ax.length = sz.length := by rw [← emA, List.length_map]
      have b1 : ∀ z ∈ ax, 1 ≤ z.1 ∧ z.1 ≤ 1000000000 := fun z hz => by
        have := pkA z hz
        exact ⟨this.1, by have := this.2.1; omega⟩
      exact ⟨⟨by omega, b1⟩, b1⟩
    have okB : AOk bx ∧ ∀ z ∈ bx, 1 ≤ z.1 ∧ z.1 ≤ 1000000000 := by
      have l1 : bx.length = so.length := by rw [← emB, List.length_map]
      have b1 : ∀ z ∈ bx, 1 ≤ z.1 ∧ z.1 ≤ 1000000000 := fun z hz => by
        have := pkB z hz
        exact ⟨this.1, by have := this.2.1; omega⟩
      have := sok.2.2
      exact ⟨⟨by omega, b1⟩, b1⟩
    have lenA : ax.length ≤ 4 := by
      have l1 : ax.length = sz.length := by rw [← emA, List.length_map]
      omega
    have lenB : bx.length ≤ 4 := by
      have l1 : bx.length = so.length := by rw [← emB, List.length_map]
      have := sok.2.2
      omega
    have spA := span_le pkA
    have spB := span_le pkB
    have ecnt : cnt ax = cnt bx := by
      unfold cnt
      rw [emA, emB, eso]
    have c60 : cnt ax ≤ 60 := by
      unfold cnt
      rw [emA]
      exact cb.2
    -- reach_here
    refine ⟨_, rfl, pb, rfl, ⟨_, sq f1⟩, fun pr npr => ?_⟩
    refine lc_list (K := K) (a := pb) (xs := [.ref lA, .ref lB]) (fun i H' => Same G1 H' ∧ ∃ rs : List Addr, H' pr = some (.lst (rs.map V.ref)) ∧ rs.length = i ∧ ∀ (j : Nat) (r : Addr), rs[j]? = some r → H' r = some (.tup [.int (lowA (sel j ax bx)), .int (highA (sel j ax bx))]))
      ⟨same_new npr, [], upd_same, rfl, fun j r hj => by cases hj⟩ (fun i H' _ ⟨s4, _⟩ => s4.seq (sq f1)) ?_ ?_
    · rintro i y H' hi ⟨s4, rs, hpr, el, hrs⟩
      have i2 : i < 2 := at_lt hi
      have ey : y = .ref (sel i lA lB) := by
        have e : i = 0 ∨ i = 1 := by omega
        rcases e with rfl | rfl
        · exact (Option.some.inj hi).symm
        · exact (Option.some.inj hi).symm
      subst ey
      have hax : AxAt H' (sel i lA lB) (sel i ax bx) := by
        unfold sel
        split
        · exact hA4.mono s4
        · exact hB4.mono s4
      have hok : ∀ z ∈ sel i ax bx, 1 ≤ z.1 ∧ z.1 ≤ 1000000000 := by
        unfold sel
        split
        · exact okA.2
        · exact okB.2
      refine ⟨rfl, _, rfl, sel i lA lB, sel i ax bx, rfl, hax, hok, fun H5 tr s5 ntr htr => ?_⟩
      have hpr5 := s5 _ _ hpr
      have ne1 : tr ≠ pr := fun z => by
        rw [z, hpr] at ntr
        cases ntr
      refine ⟨_, hpr5, smallt (m := 9) (by rw [List.length_map]; omega), same_mut (s4.trans s5) npr, rs ++ [tr], by rw [upd_same, List.map_append]; rfl, by rw [List.length_append, el]; rfl, fun j r hj => ?_⟩
      by_cases hj2 : j < rs.length
      · rw [List.getElem?_append_left hj2] at hj
        have e := hrs j r hj
        have ner : r ≠ pr := (ne_lt hpr e).symm
        rw [upd_ne ner]
        exact s5 _ _ e
      · rw [List.getElem?_append_right (Nat.le_of_not_lt hj2)] at hj
        have z : j - rs.length = 0 := by
          have := at_lt hj
          simpa using this
        rw [z] at hj
        have er : tr = r := Option.some.inj hj
        have ej : j = i := by omega
        subst er
        subst ej
        rw [upd_ne ne1]
        exact htr
    rintro G2 ⟨s4, rs, hpr, el, hrs⟩
    obtain ⟨rA, rB, rfl⟩ : ∃ rA rB, rs = [rA, rB] := by
      match rs, el with
      | [x, y], _ => exact ⟨x, y, rfl⟩
    have hrA : G2 rA = some (.tup [.int (lowA ax), .int (highA ax)]) := hrs 0 rA rfl
    have hrB : G2 rB = some (.tup [.int (lowA bx), .int (highA bx)]) := hrs 1 rB rfl
    have sG2 := sG1.trans s4
    -- room
    refine ⟨_, rfl, pr, rfl, ⟨_, sq hpr⟩, fun pm npm => ?_⟩
    refine lc_list (K := K) (a := pr) (xs := [.ref rA, .ref rB]) (fun i H' => Same G2 H' ∧ H' pm = some (.lst ((([highA ax - lowA ax, highA bx - lowA bx] : List Int).take i).map V.int))) ⟨same_new npm, upd_same⟩ (fun i H' _ ⟨s5, _⟩ => s5.seq (sq hpr)) ?_ ?_
    · rintro i y H' hi ⟨s5, h5⟩
      have i2 : i < 2 := at_lt hi
      have e : i = 0 ∨ i = 1 := by omega
      rcases e with rfl | rfl
      · obtain rfl : y = .ref rA := (Option.some.inj hi).symm
        refine ⟨rA, _, rfl, sqt (s5 _ _ hrA), rfl, _, _, rfl, _, _, rfl, rfl, rfl, _, rfl, _, rfl, _, _, rfl, rfl, _, h5, (by show 0 < sizeLine; decide), same_mut s5 npm, upd_same⟩
      · obtain rfl : y = .ref rB := (Option.some.inj hi).symm
        refine ⟨rB, _, rfl, sqt (s5 _ _ hrB), rfl, _, _, rfl, _, _, rfl, rfl, rfl, _, rfl, _, rfl, _, _, rfl, rfl, _, h5, (by show 1 < sizeLine; decide), same_mut s5 npm, upd_same⟩
    rintro G3 ⟨s5, h5⟩
    have h5 : G3 pm = some (.lst (([highA ax - lowA ax, highA bx - lowA bx] : List Int).map V.int)) := h5
    refine ⟨pm, _, rfl, sq h5, (by show 0 < 2; decide), fun m hm hmax => ?_⟩
    have m1 : highA ax - lowA ax ≤ m := hmax _ (List.mem_cons_self ..)
    have m2 : highA bx - lowA bx ≤ m := hmax _ (List.mem_cons_of_mem _ (List.mem_cons_self ..))
    have m3 : m ≤ 960 := by
      have e : m = highA ax - lowA ax ∨ m = highA bx - lowA bx := by simpa using hm
      omega
    have sG3 := sG2.trans s5
    refine ⟨_, _, rfl, rfl, _, rfl, a, ns, 14, 5, rfl, sG3.seq hS, hlen, by decide, by decide, by decide, fun d2 d20 d21 => ?_⟩
    refine ⟨_, _, rfl, rfl, ?_⟩
    generalize hroom : (1 + m + d2 : Int) = room
    have r1 : 1 ≤ room := by omega
    have r2 : room ≤ 2000 := by omega
    -- found
    refine ⟨Nat.zero_le _, fun pf npf => ?_⟩
    have s6 : Same G3 (upd G3 pf (.lst [])) := same_new npf
    refine ⟨2, rfl, by decide, by decide, ?_⟩
    refine for_range (lo := 0) (n := (2 : Int).toNat) (fun k σ H' => ∃ (us : List (Addr × Int)) (v6 v7 v10 : Option V), σ = [some (.ref a), some (.ref ls), some (.int (cntL sz)), some (.ref lo), some (.ref pb), some (.ref pr), v6, v7, some (.int room), some (.ref pf), v10, none] ∧ Same G3 H' ∧
        H' pf = some (.lst (us.map fun u => V.ref u.1)) ∧ us.length = k ∧ ∀ (j : Nat) (u : Addr × Int), us[j]? = some u → H' u.1 = some (.tup [.int u.2, .ref (sel j lA lB)]) ∧ VOk room u.2 (sel j ax bx))
      ⟨[], none, none, none, by rw [← hroom]; rfl, s6, upd_same, rfl, fun j u hj => by cases hj⟩ ?_ ?_
    · rintro k σ H' hk ⟨us, v6, v7, v10, rfl, s7, hpf, eu, hus⟩
      have hk : k < 2 := hk
      have hpr7 : H' pr = some (.lst [.ref rA, .ref rB]) := s7 _ _ (s5 _ _ hpr)
      have hpb7 : H' pb = some (.lst [.ref lA, .ref lB]) := s7 _ _ (s5 _ _ (s4 _ _ f1))
      have hrk : H' (sel k rA rB) = some (.tup [.int (lowA (sel k ax bx)), .int (highA (sel k ax bx))]) := by
        unfold sel
        split
        · exact s7 _ _ (s5 _ _ hrA)
        · exact s7 _ _ (s5 _ _ hrB)
      have hmk : highA (sel k ax bx) - lowA (sel k ax bx) ≤ m ∧ AOk (sel k ax bx) := by
        unfold sel
        split
        · exact ⟨m1, okA.1⟩
        · exact ⟨m2, okB.1⟩
      refine ⟨_, rfl, _, rfl, pr, _, _, _, rfl, rfl, sq hpr7, at_sel hk, ?_⟩
      rw [sel_ref]
      refine ⟨sel k rA rB, _, rfl, sqt hrk, rfl, _, _, rfl, _, _, rfl, rfl, ?_⟩
      refine ⟨_, rfl, .inl ⟨rfl, _, sq hpf⟩, _, rfl, _, rfl, _, _, rfl, rfl, _, rfl, _, rfl, _, rfl, _, _, rfl, rfl, _, _, rfl, rfl, ?_⟩
      refine ⟨a, ns, _, _, rfl, (sG3.trans s7).seq hS, hlen, by omega, by omega, by omega, fun d3 d30 d31 => ?_⟩
      refine ⟨_, rfl, _, _, rfl, rfl, _, rfl, _, rfl, pb, _, _, _, rfl, rfl, sq hpb7, at_sel hk, (by show 2 ≤ sizeLine; decide), fun tf ntf => ?_⟩
      rw [sel_ref]
      have npft : pf ≠ tf := ne_of_none hpf ntf
      have s8 : Same H' (upd H' tf (.tup [.int (d3 - lowA (sel k ax bx)), .ref (sel k lA lB)])) := same_new ntf
      refine ⟨pf, _, _, rfl, rfl, s8 _ _ hpf, smallt (m := 9) (by rw [List.length_map]; omega), ?_⟩
      refine ⟨us ++ [(tf, d3 - lowA (sel k ax bx))], some (.int (lowA (sel k ax bx))), some (.int (highA (sel k ax bx))), some (.int (0 + (k : Int))), rfl, same_mut (s7.trans s8) npf, by rw [upd_same, List.map_append]; rfl, by rw [List.length_append, eu]; rfl, fun j u hj => ?_⟩
      by_cases hj2 : j < us.length
      · rw [List.getElem?_append_left hj2] at hj
        have e := hus j u hj
        refine ⟨?_, e.2⟩
        rw [upd_ne (ne_lt hpf e.1).symm]
        exact s8 _ _ e.1
      · rw [List.getElem?_append_right (Nat.le_of_not_lt hj2)] at hj
        have z : j - us.length = 0 := by
          have := at_lt hj
          simpa using this
        rw [z] at hj
        have er : (tf, d3 - lowA (sel k ax bx)) = u := Option.some.inj hj
        have ej : j = k := by omega
        subst er
        subst ej
        refine ⟨?_, hmk.2, ?_, ?_⟩
        · show (upd _ pf _) tf = _
          rw [upd_ne npft.symm, upd_same]
        · show 0 ≤ d3 - lowA (sel j ax bx) + lowA (sel j ax bx)
          omega
        · show d3 - lowA (sel j ax bx) + highA (sel j ax bx) < room
          omega
    · rintro σ H' ⟨us, v6, v7, v10, rfl, s7, hpf, eu, hus⟩
      obtain ⟨uA, uB, rfl⟩ : ∃ uA uB, us = [uA, uB] := by
        match us, eu with
        | [x, y], _ => exact ⟨x, y, rfl⟩
      have hA9 := hus 0 uA rfl
      have hB9 := hus 1 uB rfl
      refine ⟨_, rfl, _, rfl, pf, _, _, _, rfl, rfl, sq hpf, rfl, _, rfl, pf, _, _, _, rfl, rfl, sq hpf, rfl, (by show 3 ≤ sizeLine; decide), fun tt ntt => ?_⟩
      have s9 : Same H' (upd H' tt (.tup [.int room, .ref uA.1, .ref uB.1])) := same_new ntt
      have s49 := ((s4.trans s5).trans s7).trans s9
      exact q _ tt uA.1 uB.1 lA lB room uA.2 uB.2 ax bx ((sG3.trans s7).trans s9) upd_same (s9 _ _ hA9.1) (s9 _ _ hB9.1) (hA4.mono s49) (hB4.mono s49) hA9.2 hB9.2 ecnt c60 r1 r2
end
end K81
/-! What statements tell; what is due. -/
namespace K81
open PySem PySem.Spec PyProof.Rows L2 He
/-! ### a method of the statement of some way -/
theorem pe_mAny {X : Cx} {CX : CXT} {k : Nat} {ps : List Str} {sp : Nat → Sp} {E : XK} {m : Str} {pos apos : Pos} {e o : Expr} {es : List Expr} {ta : TE} {t : TA} {pl : Sem Bool} (he : PE X o ta) (G : ∀ way, way ≤ 4 → Md X.prog X.w X.K X.mg X.base CX k (wayC way) m ps (sp way)) (hr : Room k X.A)
    (hx : Passes CX X E) (ha : PA X (e :: es) t)
    (hst : starEach (e :: es) X.env = (false, eval e X.env) :: starEach es X.env := by rfl) (hpl : (backTo pos (starEach es X.env)).any (·.1) = false := by rfl)
    (ht : eval (.Call (.Attribute o m apos) (e :: es) [] pos) X.env = (do
      let ov ← eval o X.env
      standAt apos.atName
      let (f, first) ← holding [ov] (getMethod ov m pl)
      callWith pos f first (backTo pos (starEach (e :: es) X.env)) (backToKw pos (keywordEach [] X.env))) := by rfl) :
    PE X (.Call (.Attribute o m apos) (e :: es) [] pos) (fun σ H Q => ta σ H fun x H1 => ∃ (way : Nat) (a dx : Addr) (fs : List (Str × V)), way ≤ 4 ∧ x = .ref a ∧ H1 a = some (.ins (ga X.K (wayC way)) dx fs) ∧ fs.lookup m = none ∧ t σ H1 fun vs H2 => sp way (x :: vs) H2 Q E) := by
  refine ⟨fun pins s σ H Q I h => ?_⟩
  refine PySem.W.methodCall_KW (pl := pl) (thn (he.run pins s σ H _ I h) fun u s1 ⟨x, H1, I1, rx, way, a, dx, fs, hw, ex, ea, l, q⟩ => ?_) ht
  subst ex
  obtain rfl : u = Value.ref a := rx
  obtain ⟨f, fd, F, c, hm, hb⟩ := (G way hw).ex
  refine getmeth_ok I1 ea c hm l ?_
  refine PySem.W.callWith_K (first := [.ref a]) (h₀ := X.base) I.ok.mod.kin hm.kp (thn (ha.run pos pins s1 σ H1 _ I1 q) fun us s2 ⟨vs, H2, I2, r, q2⟩ => ⟨I2.kIn, ?_⟩) hst hpl
  exact run_fn (dvs := []) (us := .ref a :: us) (vs := .ref a :: vs) F hr hb .nil hx I2 (.cons rfl r) (by rw [List.append_nil]; exact q2)
/-! ### what they tell -/
def wrA : Nat → Addr → Addr → List Addr
  | 0, _, _ => []
  | 1, a, _ => [a]
  | 2, a, _ => [a]
  | 3, a, b => [a, b]
  | _, a, _ => [a]
def rdA : Nat → Addr → Addr → List Addr
  | 0, _, _ => []
  | 1, _, _ => []
  | 2, _, b => [b]
  | 3, a, b => [a, b]
  | _, a, b => [a, b]
def spTellA (K : PySem.W.Frag) (way : Nat) (f : Nat → Addr → Addr → List Addr) : Sp := fun vs H Q _ => ∃ (st a b : Addr) (x : Int), vs = [.ref st] ∧ StAt K H st way a b x ∧ ∀ p, H p = none → Q (.ref p) (upd H p (.lst ((f way a b).map V.ref)))
theorem way5 {way : Nat} (h : way ≤ 4) : way = 0 ∨ way = 1 ∨ way = 2 ∨ way = 3 ∨ way = 4 := by omega
theorem pick5 {way : Nat} {u0 u1 u2 u3 u4 : Addr} (h : way ≤ 4) {p : Nat → Addr → Prop} (q0 : p 0 u0) (q1 : p 1 u1) (q2 : p 2 u2) (q3 : p 3 u3) (q4 : p 4 u4) : ∃ u, atI [V.ref u0, .ref u1, .ref u2, .ref u3, .ref u4] (way : Int) = some (.ref u) ∧ p way u := by
  rcases way5 h with rfl | rfl | rfl | rfl | rfl
  · exact ⟨_, rfl, q0⟩
  · exact ⟨_, rfl, q1⟩
  · exact ⟨_, rfl, q2⟩
  · exact ⟨_, rfl, q3⟩
  · exact ⟨_, rfl, q4⟩
theorem wayF_no {m : Str} (h1 : ¬ m = "to") (h2 : ¬ m = "value") (h3 : ¬ m = "source") (h4 : ¬ m = "one") (h5 : ¬ m = "other") (way : Nat) (a b : Addr) (x : Int) : (wayF way a b x).lookup m = none := by
  unfold wayF
  split
  · rfl
  · exact f2_no h1 h2
  · exact f2_no h1 h3
  · exact f2_no h4 h5
  · exact f2_no h1 h3
def spTold (K : PySem.W.Frag) : Sp := fun vs H Q _ => ∃ (st a b : Addr) (way : Nat) (x r1 r2 g1 g2 : Int) (ax bx : Ax), vs = [.ref st, .int (way : Int), .ref a, .ref b] ∧ way ≤ 4 ∧ StAt K H st way a b x ∧ ViewAt K H a r1 g1 ax ∧ ViewAt K H b r2 g2 bx ∧ ∀ H', Same H H' → Q (.bl true) H'
/-! ### what is due -/
theorem fold_zip (g : Int × Int → Int) : ∀ (cs ds : List Int) (v : List Int), (cs.zip ds).foldl (fun vs p => vs.set p.1.toNat (g p)) v = (cs.zip ((cs.zip ds).map g)).foldl (fun vs p => vs.set p.1.toNat p.2) v
  | [], _, v => by simp
  | _ :: _, [], v => by simp
  | c :: cs, d :: ds, v => by
    show (cs.zip ds).foldl _ (v.set c.toNat (g (c, d))) = (cs.zip ((cs.zip ds).map g)).foldl _ (v.set c.toNat (g (c, d)))
    exact fold_zip g cs ds _
theorem zip_snd (vals : List Int) : ∀ (cs ds : List Int), cs.length = ds.length → (cs.zip ds).map (fun p => vals.getD p.2.toNat 0 + 0 * vals.getD p.1.toNat 0) = readV vals ds
  | [], [], _ => rfl
  | [], _ :: _, h => by cases h
  | _ :: _, [], h => by cases h
  | c :: cs, d :: ds, h => by
    show (vals.getD d.toNat 0 + 0 * vals.getD c.toNat 0) :: (cs.zip ds).map _ = vals.getD d.toNat 0 :: readV vals ds
    rw [zip_snd vals cs ds (Nat.succ.inj h), Int.zero_mul, Int.add_zero]
theorem zip_snd' (vals : List Int) : ∀ (cs ds : List Int), cs.length = ds.length → (cs.zip ds).map (fun p => vals.getD p.2.toNat 0) = readV vals ds
  | [], [], _ => rfl
  | [], _ :: _, h => by cases h
  | _ :: _, [], h => by cases h
  | c :: cs, d :: ds, h => by
    show vals.getD d.toNat 0 :: (cs.zip ds).map _ = vals.getD d.toNat 0 :: readV vals ds
    rw [zip_snd' vals cs ds (Nat.succ.inj h)]
theorem zip_both (vals : List Int) : ∀ (cs ds : List Int), (cs.zip ds).map (fun p => vals.getD p.2.toNat 0 + 1 * vals.getD p.1.toNat 0) = List.zipWith (· + ·) (readV vals cs) (readV vals ds)
  | [], _ => by simp [readV]
  | _ :: _, [] => by simp [readV]
  | c :: cs, d :: ds => by
    show (vals.getD d.toNat 0 + 1 * vals.getD c.toNat 0) :: (cs.zip ds).map _ = (vals.getD c.toNat 0 + vals.getD d.toNat 0) :: List.zipWith (· + ·) (readV vals cs) (readV vals ds)
    rw [zip_both vals cs ds, Int.one_mul, Int.add_comm]
theorem fold_set_len' (g : Int × Int → Int) (l : List (Int × Int)) : ∀ vals : List Int, (l.foldl (fun vs p => vs.set p.1.toNat (g p)) vals).length = vals.length := by
  induction l with
  | nil => intro vals; rfl
  | cons p r ih =>
    intro vals
    show (r.foldl _ (vals.set p.1.toNat (g p))).length = _
    rw [ih, List.length_set]
def spDue (K : PySem.W.Frag) : Sp := fun vs H Q _ => ∃ (d h1 h2 : Addr) (way : Nat) (x : Int) (vals cs ds : List Int), vs = [.ref d, .int (way : Int), .ref h1, .ref h2, .int x] ∧ way ≤ 4 ∧ H d = some (.lst (vals.map V.int)) ∧ H h1 = some (.lst (cs.map V.int)) ∧ H h2 = some (.lst (ds.map V.int)) ∧ cs.length = ds.length ∧
  (∀ c ∈ cs, 0 ≤ c ∧ c < (vals.length : Int)) ∧ (∀ c ∈ ds, 0 ≤ c ∧ c < (vals.length : Int)) ∧ ∀ H' p, Same H H' → H p = none → H' p = some (.lst ((dueV way vals cs ds x).map V.int)) → Q (.ref p) H'
section
variable {P : Program} {w : World} {K : PySem.W.Frag} {mg : Str → Option Value} {base : Heap}
/-- all ways' methods from the five -/
theorem tell_all {m : Str} {f : Nat → Addr → Addr → List Addr} (G0 : Md P w K mg base CX0 1 "Statement" m ["self"] spTell0) (G1 : ∃ sel, Md P w K mg base CX0 1 "Fill" m ["self"] (spTell K "Fill" "to" "value" sel) ∧ ∀ a b x, sel (.ref a) (.int x) = (f 1 a b).map V.ref) (G2 : ∃ sel, Md P w K mg base CX0 1 "Copy" m ["self"] (spTell K "Copy" "to" "source" sel) ∧ ∀ a b, sel (.ref a) (.ref b) = (f 2 a b).map V.ref)
    (G3 : ∃ sel, Md P w K mg base CX0 1 "Swap" m ["self"] (spTell K "Swap" "one" "other" sel) ∧ ∀ a b, sel (.ref a) (.ref b) = (f 3 a b).map V.ref) (G4 : ∃ sel, Md P w K mg base CX0 1 "Raise" m ["self"] (spTell K "Raise" "to" "source" sel) ∧ ∀ a b, sel (.ref a) (.ref b) = (f 4 a b).map V.ref) (f0 : ∀ a b, f 0 a b = []) :
    ∀ way, way ≤ 4 → Md P w K mg base CX0 1 (wayC way) m ["self"] (spTellA K way f) := by
  intro way hw
  rcases way5 hw with rfl | rfl | rfl | rfl | rfl
  · obtain ⟨g, fd, F, c, hm, hb⟩ := G0.ex
    exact ⟨g, fd, F.imp fun vs H Q E h => by
      obtain ⟨st, a, b, x, e, ⟨dx, ht⟩, q⟩ := h
      exact ⟨st, e, fun p np => by have := q p np; rw [f0] at this; exact this⟩, c, hm, hb⟩
  · obtain ⟨sel, G, es⟩ := G1
    obtain ⟨g, fd, F, c, hm, hb⟩ := G.ex
    exact ⟨g, fd, F.imp fun vs H Q E h => by
      obtain ⟨st, a, b, x, e, ⟨dx, ht⟩, q⟩ := h
      exact ⟨st, dx, .ref a, .int x, e, ht, fun p np => by rw [es a b x]; exact q p np⟩, c, hm, hb⟩
  · obtain ⟨sel, G, es⟩ := G2
    obtain ⟨g, fd, F, c, hm, hb⟩ := G.ex
    exact ⟨g, fd, F.imp fun vs H Q E h => by
      obtain ⟨st, a, b, x, e, ⟨dx, ht⟩, q⟩ := h
      exact ⟨st, dx, .ref a, .ref b, e, ht, fun p np => by rw [es a b]; exact q p np⟩, c, hm, hb⟩
  · obtain ⟨sel, G, es⟩ := G3
    obtain ⟨g, fd, F, c, hm, hb⟩ := G.ex
    exact ⟨g, fd, F.imp fun vs H Q E h => by
      obtain ⟨st, a, b, x, e, ⟨dx, ht⟩, q⟩ := h
      exact ⟨st, dx, .ref a, .ref b, e, ht, fun p np => by rw [es a b]; exact q p np⟩, c, hm, hb⟩
  · obtain ⟨sel, G, es⟩ := G4
    obtain ⟨g, fd, F, c, hm, hb⟩ := G.ex
    exact ⟨g, fd, F.imp fun vs H Q E h => by
      obtain ⟨st, a, b, x, e, ⟨dx, ht⟩, q⟩ := h
      exact ⟨st, dx, .ref a, .ref b, e, ht, fun p np => by rw [es a b]; exact q p np⟩, c, hm, hb⟩
theorem sc_told : FnScope ["_law_statement", "_law_way", "_law_one", "_law_other", "_law_writes", "_law_reads", "_law_found"] ["_law_statement", "_law_way", "_law_one", "_law_other"] (defScope s_ltold) := ⟨rfl, rfl, rfl, by decide +kernel, rfl, by decide +kernel, by decide +kernel⟩
theorem g_told (T : Txt K mg) (GW : ∀ way, way ≤ 4 → Md P w K mg base CX0 1 (wayC way) "writes" ["self"] (spTellA K way wrA)) (GR : ∀ way, way ≤ 4 → Md P w K mg base CX0 1 (wayC way) "reads" ["self"] (spTellA K way rdA))
    (GS : Gd P w K mg base CX0 1 "_law_same" ["_law_found", "_law_views_here"] (spSame K)) : Gd P w K mg base CX0 2 "_law_told" ["_law_statement", "_law_way", "_law_one", "_law_other"] (spTold K) := by
  obtain ⟨fd, F⟩ := T.d__law_told
  refine ⟨_, fd, fok0 F sc_told (fun vs H Q E h => ?_) (fun cdv A outer s H vs Q E hr h => ?_), T.g__law_told, F.kp, bnd F fun _ _ _ _ _ _ us hl => match us, hl with | [_, _, _, _], _ => rfl⟩
  · obtain ⟨st, a, b, way, x, r1, r2, g1, g2, ax, bx, rfl, _⟩ := h
    rfl
  · obtain ⟨st, a, b, way, x, r1, r2, g1, g2, ax, bx, rfl, hw, hst, hA, hB, q⟩ := h
    obtain ⟨dt, ht⟩ := id hst
    have noW : (wayF way a b x).lookup ("writes" : Str) = none := wayF_no (by decide +kernel) (by decide +kernel) (by decide +kernel) (by decide +kernel) (by decide +kernel) way a b x
    have noR : (wayF way a b x).lookup ("reads" : Str) = none := wayF_no (by decide +kernel) (by decide +kernel) (by decide +kernel) (by decide +kernel) (by decide +kernel) way a b x
    have GW1 := GW way hw
    have GR1 := GR way hw
    refine' ⟨_, pss_cons ?s1 (pss_cons ?s2 (pss_cons ?s3 (pss_cons ?s4 (pss_cons ?s5 (pss_cons ?s6 (pss_one ?s7)))))), ?last⟩
    case s1 => exact ps_set (i := 4) sc_told.nd rfl (.inl rfl) (pe_ix ix_list (pe_lst (pa_cons (pe_lst pa_nil) (pa_cons (pe_lst (pa_cons (pv 2) pa_nil)) (pa_cons (pe_lst (pa_cons (pv 2) pa_nil)) (pa_cons (pe_lst (pa_cons (pv 2) (pa_cons (pv 3) pa_nil))) (pa_cons (pe_lst (pa_cons (pv 2) pa_nil)) pa_nil)))))) (pv 1) (fun _ _ => rfl))
    case s2 => exact ps_set (i := 5) sc_told.nd rfl (.inl rfl) (pe_ix ix_list (pe_lst (pa_cons (pe_lst pa_nil) (pa_cons (pe_lst pa_nil) (pa_cons (pe_lst (pa_cons (pv 3) pa_nil)) (pa_cons (pe_lst (pa_cons (pv 2) (pa_cons (pv 3) pa_nil))) (pa_cons (pe_lst (pa_cons (pv 2) (pa_cons (pv 3) pa_nil))) pa_nil)))))) (pv 1) (fun _ _ => rfl))
    case s3 => exact ps_set (i := 6) sc_told.nd rfl (.inl rfl) (pe_m0 (pv 0) GW1 hr pass0)
    case s4 => exact ps_if (PW.pt (pw_or (pt_not (pt_val (pe_g GS hr pass0 (pa_cons (pv 6) (pa_cons (pv 4) pa_nil))))) (pw_or1 (pt_not (pt_val (pe_g GS hr pass0 (pa_cons (pe_m0 (pv 0) GR1 hr pass0) (pa_cons (pv 5) pa_nil)))))))) pss_never pss_nil
    case s5 => exact ps_expr (pe_bm PySem.F.plainAttrs_list PySem.F.slot_list_append PySem.F.type_list_append mt_append (pv 6) (pa_cons pe_non pa_nil))
    case s6 => exact ps_expr (pe_bm PySem.F.plainAttrs_list PySem.F.slot_list_append PySem.F.type_list_append mt_append (pe_m0 (pv 0) GR1 hr pass0) (pa_cons pe_non pa_nil))
    case s7 => exact ps_ret (pe_and (pe_g GS hr pass0 (pa_cons (pe_m0 (pv 0) GW1 hr pass0) (pa_cons (pv 4) pa_nil))) (pe_one (pe_g GS hr pass0 (pa_cons (pe_m0 (pv 0) GR1 hr pass0) (pa_cons (pv 5) pa_nil)))))
    -- the views that are due
    refine ⟨Nat.zero_le _, fun l0 n0 => ?_⟩
    have a0 : Same H (upd H l0 (.lst [])) := same_new n0
    have b0 : (upd H l0 (.lst [])) l0 = some (.lst ((wrA 0 a b).map V.ref)) := upd_same
    generalize upd H l0 (.lst []) = J0 at a0 b0 ⊢
    refine ⟨_, rfl, (by show 1 ≤ sizeLine; decide), fun l1 n1 => ?_⟩
    have a1 : Same J0 (upd J0 l1 (.lst [.ref a])) := same_new n1
    have b1 : (upd J0 l1 (.lst [.ref a])) l1 = some (.lst ((wrA 1 a b).map V.ref)) := upd_same
    generalize upd J0 l1 (.lst [.ref a]) = J1 at a1 b1 ⊢
    refine ⟨_, rfl, (by show 1 ≤ sizeLine; decide), fun l2 n2 => ?_⟩
    have a2 : Same J1 (upd J1 l2 (.lst [.ref a])) := same_new n2
    have b2 : (upd J1 l2 (.lst [.ref a])) l2 = some (.lst ((wrA 2 a b).map V.ref)) := upd_same
    generalize upd J1 l2 (.lst [.ref a]) = J2 at a2 b2 ⊢
    refine ⟨_, rfl, _, rfl, (by show 2 ≤ sizeLine; decide), fun l3 n3 => ?_⟩
    have a3 : Same J2 (upd J2 l3 (.lst [.ref a, .ref b])) := same_new n3
    have b3 : (upd J2 l3 (.lst [.ref a, .ref b])) l3 = some (.lst ((wrA 3 a b).map V.ref)) := upd_same
    generalize upd J2 l3 (.lst [.ref a, .ref b]) = J3 at a3 b3 ⊢
    refine ⟨_, rfl, (by show 1 ≤ sizeLine; decide), fun l4 n4 => ?_⟩
    have a4 : Same J3 (upd J3 l4 (.lst [.ref a])) := same_new n4
    have b4 : (upd J3 l4 (.lst [.ref a])) l4 = some (.lst ((wrA 4 a b).map V.ref)) := upd_same
    generalize upd J3 l4 (.lst [.ref a]) = J4 at a4 b4 ⊢
    refine ⟨(by show 5 ≤ sizeLine; decide), fun l5 n5 => ?_⟩
    have a5 : Same J4 (upd J4 l5 (.lst [.ref l0, .ref l1, .ref l2, .ref l3, .ref l4])) := same_new n5
    have b5 : (upd J4 l5 (.lst [.ref l0, .ref l1, .ref l2, .ref l3, .ref l4])) l5 = some (.lst [.ref l0, .ref l1, .ref l2, .ref l3, .ref l4]) := upd_same
    generalize upd J4 l5 (.lst [.ref l0, .ref l1, .ref l2, .ref l3, .ref l4]) = J5 at a5 b5 ⊢
    have c4 := a4.trans a5
    have c3 := a3.trans c4
    have c2 := a2.trans c3
    have c1 := a1.trans c2
    have c0 := a0.trans c1
    obtain ⟨lw, elw, hlw⟩ := pick5 (p := fun i u => J5 u = some (.lst ((wrA i a b).map V.ref))) hw (c1 _ _ b0) (c2 _ _ b1) (c3 _ _ b2) (c4 _ _ b3) (a5 _ _ b4)
    refine ⟨_, rfl, l5, _, _, _, rfl, rfl, sq b5, elw, ?_⟩
    clear b0 b1 b2 b3 b4 b5 a0 a1 a2 a3 a4 a5 c1 c2 c3 c4 n0 n1 n2 n3 n4 n5 elw
    refine ⟨Nat.zero_le _, fun m0 n0 => ?_⟩
    have a0 : Same J5 (upd J5 m0 (.lst [])) := same_new n0
    have b0 : (upd J5 m0 (.lst [])) m0 = some (.lst ((rdA 0 a b).map V.ref)) := upd_same
    generalize upd J5 m0 (.lst []) = G0 at a0 b0 ⊢
    refine ⟨Nat.zero_le _, fun m1 n1 => ?_⟩
    have a1 : Same G0 (upd G0 m1 (.lst [])) := same_new n1
    have b1 : (upd G0 m1 (.lst [])) m1 = some (.lst ((rdA 1 a b).map V.ref)) := upd_same
    generalize upd G0 m1 (.lst []) = G1 at a1 b1 ⊢
    refine ⟨_, rfl, (by show 1 ≤ sizeLine; decide), fun m2 n2 => ?_⟩
    have a2 : Same G1 (upd G1 m2 (.lst [.ref b])) := same_new n2
    have b2 : (upd G1 m2 (.lst [.ref b])) m2 = some (.lst ((rdA 2 a b).map V.ref)) := upd_same
    generalize upd G1 m2 (.lst [.ref b]) = G2 at a2 b2 ⊢
    refine ⟨_, rfl, _, rfl, (by show 2 ≤ sizeLine; decide), fun m3 n3 => ?_⟩
    have a3 : Same G2 (upd G2 m3 (.lst [.ref a, .ref b])) := same_new n3
    have b3 : (upd G2 m3 (.lst [.ref a, .ref b])) m3 = some (.lst ((rdA 3 a b).map V.ref)) := upd_same
    generalize upd G2 m3 (.lst [.ref a, .ref b]) = G3 at a3 b3 ⊢
    refine ⟨_, rfl, _, rfl, (by show 2 ≤ sizeLine; decide), fun m4 n4 => ?_⟩
    have a4 : Same G3 (upd G3 m4 (.lst [.ref a, .ref b])) := same_new n4
    have b4 : (upd G3 m4 (.lst [.ref a, .ref b])) m4 = some (.lst ((rdA 4 a b).map V.ref)) := upd_same
    generalize upd G3 m4 (.lst [.ref a, .ref b]) = G4 at a4 b4 ⊢
    refine ⟨(by show 5 ≤ sizeLine; decide), fun m5 n5 => ?_⟩
    have a5 : Same G4 (upd G4 m5 (.lst [.ref m0, .ref m1, .ref m2, .ref m3, .ref m4])) := same_new n5
    have b5 : (upd G4 m5 (.lst [.ref m0, .ref m1, .ref m2, .ref m3, .ref m4])) m5 = some (.lst [.ref m0, .ref m1, .ref m2, .ref m3, .ref m4]) := upd_same
    generalize upd G4 m5 (.lst [.ref m0, .ref m1, .ref m2, .ref m3, .ref m4]) = G5 at a5 b5 ⊢
    have c4 := a4.trans a5
    have c3 := a3.trans c4
    have c2 := a2.trans c3
    have c1 := a1.trans c2
    have d0 := a0.trans c1
    obtain ⟨lr, elr, hlr⟩ := pick5 (p := fun i u => G5 u = some (.lst ((rdA i a b).map V.ref))) hw (c1 _ _ b0) (c2 _ _ b1) (c3 _ _ b2) (c4 _ _ b3) (a5 _ _ b4)
    refine ⟨_, rfl, m5, _, _, _, rfl, rfl, sq b5, elr, ?_⟩
    have S0 : Same H G5 := c0.trans d0
    have hlw5 := d0 _ _ hlw
    clear b0 b1 b2 b3 b4 b5 a0 a1 a2 a3 a4 a5 c1 c2 c3 c4 n0 n1 n2 n3 n4 n5 elr c0 d0 hlw
    have vw : ∀ J, Same H J → ∀ u ∈ wrA way a b, ∃ room first ax, ViewAt K J u room first ax := fun J sj u hu => by
      have e : u = a ∨ u = b := by
        rcases way5 hw with rfl | rfl | rfl | rfl | rfl <;> simp [wrA] at hu <;> first | exact hu | exact .inl hu
      rcases e with rfl | rfl
      · exact ⟨_, _, _, hA.mono sj⟩
      · exact ⟨_, _, _, hB.mono sj⟩
    have vr : ∀ J, Same H J → ∀ u ∈ rdA way a b, ∃ room first ax, ViewAt K J u room first ax := fun J sj u hu => by
      have e : u = a ∨ u = b := by
        rcases way5 hw with rfl | rfl | rfl | rfl | rfl <;> simp [rdA] at hu <;> first | exact hu | exact .inr hu
      rcases e with rfl | rfl
      · exact ⟨_, _, _, hA.mono sj⟩
      · exact ⟨_, _, _, hB.mono sj⟩
    -- found = statement.writes()
    refine ⟨_, rfl, st, dt, _, rfl, S0 _ _ ht, noW, st, a, b, x, rfl, hst.mono S0, fun pf npf => ?_⟩
    have s1 : Same G5 (upd G5 pf (.lst ((wrA way a b).map V.ref))) := same_new npf
    have hpf : (upd G5 pf (.lst ((wrA way a b).map V.ref))) pf = some (.lst ((wrA way a b).map V.ref)) := upd_same
    generalize upd G5 pf (.lst ((wrA way a b).map V.ref)) = E1 at s1 hpf ⊢
    refine ⟨_, rfl, _, rfl, pf, lw, wrA way a b, rfl, hpf, s1 _ _ hlw5, vw _ (S0.trans s1), fun E2 s2 => ⟨true, rfl, iteF ?_⟩⟩
    have S2 := (S0.trans s1).trans s2
    refine ⟨_, rfl, st, dt, _, rfl, S2 _ _ ht, noR, st, a, b, x, rfl, hst.mono S2, fun pg npg => ?_⟩
    have s3 : Same E2 (upd E2 pg (.lst ((rdA way a b).map V.ref))) := same_new npg
    have hpg : (upd E2 pg (.lst ((rdA way a b).map V.ref))) pg = some (.lst ((rdA way a b).map V.ref)) := upd_same
    generalize upd E2 pg (.lst ((rdA way a b).map V.ref)) = E3 at s3 hpg ⊢
    refine ⟨_, rfl, pg, lr, rdA way a b, rfl, hpg, s3 _ _ (s2 _ _ (s1 _ _ hlr)), vr _ (S2.trans s3), fun E4 s4 => ⟨true, rfl, iteF ?_⟩⟩
    -- found.append(None)
    have s14 := (s2.trans s3).trans s4
    have S4 := (S2.trans s3).trans s4
    have hpf4 := s14 _ _ hpf
    have lenw : (wrA way a b).length ≤ 2 := by rcases way5 hw with rfl | rfl | rfl | rfl | rfl <;> simp [wrA]
    have lenr : (rdA way a b).length ≤ 2 := by rcases way5 hw with rfl | rfl | rfl | rfl | rfl <;> simp [rdA]
    refine ⟨_, rfl, .inl ⟨rfl, _, sq hpf4⟩, pf, _, _, rfl, rfl, hpf4, smallt (m := 9) (by rw [List.length_map]; omega), ?_⟩
    have s5 : Same G5 (upd E4 pf (.lst ((wrA way a b).map V.ref ++ [.non]))) := same_mut (s1.trans s14) npf
    generalize upd E4 pf (.lst ((wrA way a b).map V.ref ++ [.non])) = E5 at s5 ⊢
    have S5 := S0.trans s5
    refine ⟨_, rfl, st, dt, _, rfl, S5 _ _ ht, noR, st, a, b, x, rfl, hst.mono S5, fun ph nph => ?_⟩
    have s6 : Same E5 (upd E5 ph (.lst ((rdA way a b).map V.ref))) := same_new nph
    have hph : (upd E5 ph (.lst ((rdA way a b).map V.ref))) ph = some (.lst ((rdA way a b).map V.ref)) := upd_same
    generalize upd E5 ph (.lst ((rdA way a b).map V.ref)) = E6 at s6 hph ⊢
    refine ⟨.inl ⟨rfl, _, sq hph⟩, ph, _, _, rfl, rfl, hph, smallt (m := 9) (by rw [List.length_map]; omega), ?_⟩
    have s7 : Same E5 (upd E6 ph (.lst ((rdA way a b).map V.ref ++ [.non]))) := same_mut s6 nph
    generalize upd E6 ph (.lst ((rdA way a b).map V.ref ++ [.non])) = E7 at s7 ⊢
    have S7 := S5.trans s7
    -- asked again
    refine ⟨_, rfl, st, dt, _, rfl, S7 _ _ ht, noW, st, a, b, x, rfl, hst.mono S7, fun pi npi => ?_⟩
    have s8 : Same E7 (upd E7 pi (.lst ((wrA way a b).map V.ref))) := same_new npi
    have hpi : (upd E7 pi (.lst ((wrA way a b).map V.ref))) pi = some (.lst ((wrA way a b).map V.ref)) := upd_same
    generalize upd E7 pi (.lst ((wrA way a b).map V.ref)) = E8 at s8 hpi ⊢
    have g8 := (s5.trans s7).trans s8
    refine ⟨_, rfl, pi, lw, wrA way a b, rfl, hpi, g8 _ _ hlw5, vw _ (S7.trans s8), fun E9 s9 => ⟨true, rfl, iteT ?_⟩⟩
    have S9 := (S7.trans s8).trans s9
    refine ⟨_, rfl, st, dt, _, rfl, S9 _ _ ht, noR, st, a, b, x, rfl, hst.mono S9, fun pj npj => ?_⟩
    have s10 : Same E9 (upd E9 pj (.lst ((rdA way a b).map V.ref))) := same_new npj
    exact ⟨_, rfl, pj, lr, rdA way a b, rfl, upd_same, s10 _ _ (s9 _ _ (g8 _ _ hlr)), vr _ (S9.trans s10), fun E10 s11 => q E10 ((S9.trans s10).trans s11)⟩
theorem sc_due : FnScope ["_law_due_here", "_law_way", "_law_here", "_law_there", "_law_value", "_law_found", "_law_cell", "_law_ahead"] ["_law_due_here", "_law_way", "_law_here", "_law_there", "_law_value"] (defScope s_ldue) := ⟨rfl, rfl, rfl, by decide +kernel, rfl, by decide +kernel, by decide +kernel⟩
theorem g_due (T : Txt K mg) : Gd P w K mg base CX0 1 "_law_due" ["_law_due_here", "_law_way", "_law_here", "_law_there", "_law_value"] (spDue K) := by
  obtain ⟨fd, F⟩ := T.d__law_due
  refine ⟨_, fd, fok0 F sc_due (fun vs H Q E h => ?_) (fun cdv A outer s H vs Q E hr h => ?_), T.g__law_due, F.kp, bnd F fun _ _ _ _ _ _ us hl => match us, hl with | [_, _, _, _, _], _ => rfl⟩
  · obtain ⟨d, h1, h2, way, x, vals, cs, ds, rfl, _⟩ := h
    rfl
  · obtain ⟨d, h1, h2, way, x, vals, cs, ds, rfl, hw, hd, hh1, hh2, ecd, bc, bd, q⟩ := h
    refine' ⟨_, pss_cons ?s1 (pss_cons ?s2 (pss_cons ?s3 (pss_cons ?s4 (pss_one ?s5)))), ?last⟩
    case s1 => exact ps_set (i := 5) sc_due.nd rfl (.inl rfl) (pe_callTy call_list_of (by rfl) T.f_list (by decide +kernel) (pa_cons (pv 0) pa_nil))
    case s2 => exact ps_if (pt_cmpR op_eq (pv 1) pe_int (nomark _)) (pss_one (ps_for PassesOwn.never rfl (pi_list (pv 2)) (pg_name (i := 6) sc_due.nd rfl (.inl rfl)) (pss_one (ps_asg (pv 4) (pg_sub (pv 5) (pv 6) set_list))))) pss_nil
    case s3 => exact ps_if (pt_cmpR op_gt (pv 1) pe_int (nomark _)) (pss_one (ps_for PassesOwn.never rfl (pi_zip (by rfl) T.f_zip (pa_cons (pv 2) (pa_cons (pv 3) pa_nil))) (pg_tup rfl (pgs_cons (pg_name (i := 6) sc_due.nd rfl (.inl rfl)) (pgs_cons (pg_name (i := 7) sc_due.nd rfl (.inl rfl)) pgs_nil)))
      (pss_one (ps_asg (pe_op op_add (pe_ix ix_list (pv 0) (pv 7) (fun _ _ => rfl)) (pe_op op_mul (pe_callTy call_int1 (by rfl) T.f_int (by decide +kernel) (pa_cons (pe_cmpR op_eq (pv 1) pe_int (nomark _)) pa_nil)) (pe_ix ix_list (pv 0) (pv 6) (fun _ _ => rfl)))) (pg_sub (pv 5) (pv 6) set_list))))) pss_nil
    case s4 => exact ps_if (pt_cmpR op_eq (pv 1) pe_int (nomark _)) (pss_one (ps_for PassesOwn.never rfl (pi_zip (by rfl) T.f_zip (pa_cons (pv 3) (pa_cons (pv 2) pa_nil))) (pg_tup rfl (pgs_cons (pg_name (i := 6) sc_due.nd rfl (.inl rfl)) (pgs_cons (pg_name (i := 7) sc_due.nd rfl (.inl rfl)) pgs_nil)))
      (pss_one (ps_asg (pe_ix ix_list (pv 0) (pv 7) (fun _ _ => rfl)) (pg_sub (pv 5) (pv 6) set_list))))) pss_nil
    case s5 => exact ps_ret (pv 5)
    refine ⟨_, rfl, d, _, rfl, .inl (sq hd), fun p np => ?_⟩
    have s1 : Same H (upd H p (.lst (vals.map V.int))) := same_new np
    have hp : (upd H p (.lst (vals.map V.int))) p = some (.lst (vals.map V.int)) := upd_same
    generalize upd H p (.lst (vals.map V.int)) = J at s1 hp ⊢
    have nhp : ∀ {l : Addr} {o : HO}, H l = some o → l ≠ p := fun e => ne_of_none e np
    -- the end, and the third part
    have part4 : ∀ (v6 v7 : Option V) (J2 : Hp) (v2 : List Int), Same H J2 → J2 p = some (.lst (v2.map V.int)) → v2.length = vals.length → dueV way vals cs ds x = (if way = 3 then writeV v2 ds (readV vals cs) else v2) →
        (tSeq (tIfS (tTest (tOp rEq (tVar 1) (tC (.int 3)))) (tFor (iZip K (tCons (tVar 3) (tCons (tVar 2) tNil))) (gTup K 2 (gCons (gName 6) (gCons (gName 7) gNil))) (tAsg (tOp (rIxL K) (tVar 0) (tVar 7)) (gSub (tVar 5) (tVar 6) rSetL))) tNext) (tRet (tVar 5)) : TS)
          { nx := fun _ H' => Q .non H', rt := Q } [some (.ref d), some (.int (way : Int)), some (.ref h1), some (.ref h2), some (.int x), some (.ref p), v6, v7] J2 := by
      intro v6 v7 J2 v2 s2 hp2 el ed
      refine ⟨_, rfl, rfl, _, rfl, ite2 (fun c => ?_) (fun c => ?_)⟩
      · have w3 : way = 3 := by
          have := V.int.inj (of_decide_eq_true c)
          omega
        rw [if_pos w3] at ed
        refine ⟨_, rfl, _, rfl, h2, h1, _, _, rfl, sq (s2 _ _ hh2), sq (s2 _ _ hh1), ?_⟩
        refine RZ.for_zipL (K := K) (a := h2) (b := h1) (xs := ds.map V.int) (ys := cs.map V.int) (by rw [List.length_map, List.length_map, ecd])
          (fun i σ H' => ∃ v6 v7, σ = [some (.ref d), some (.int (way : Int)), some (.ref h1), some (.ref h2), some (.int x), some (.ref p), v6, v7] ∧ Same H H' ∧ H' p = some (.lst ((((ds.zip cs).take i).foldl (fun vs z => vs.set z.1.toNat (vals.getD z.2.toNat 0)) v2).map V.int)))
          ⟨v6, v7, rfl, s2, hp2⟩ (fun i σ H' ⟨_, _, _, s3, _⟩ => ⟨sq (s3 _ _ hh2), sq (s3 _ _ hh1)⟩) ?_ ?_
        · rintro i y z t σ H' hy hz ⟨v6, v7, rfl, s3, h3⟩ nt
          obtain ⟨c1, hc1, rfl⟩ := map_at hy
          obtain ⟨c2, hc2, rfl⟩ := map_at hz
          have q1 := bd c1 (at_mem hc1)
          have q2 := bc c2 (at_mem hc2)
          have s4 : Same H (upd H' t (.tup [.int c1, .int c2])) := s3.trans (same_new nt)
          refine ⟨t, _, rfl, .inl (.inl upd_same), rfl, _, _, rfl, _, _, rfl, rfl, ?_⟩
          refine ⟨_, rfl, _, rfl, d, _, _, _, rfl, rfl, sq (s4 _ _ hd), at_cell q2.1 q2.2, _, rfl, _, rfl, p, _, c1, c1.toNat, rfl, rfl, same_new nt _ _ h3, ?_, _, _, rfl, same_mut s4 np, ?_⟩
          · refine ixN_at q1.1 ?_
            rw [List.length_map, fold_set_len' (fun z => vals.getD z.2.toNat 0), el]
            exact q1.2
          · rw [upd_same, map_set', fold_more (zip_at hc1 hc2)]
        · rintro σ H' ⟨v6, v7, rfl, s3, h3⟩
          rw [List.length_map, List.take_of_length_le (by rw [List.length_zip]; exact Nat.min_le_left _ _), fold_zip (fun z => vals.getD z.2.toNat 0), zip_snd' vals ds cs ecd.symm] at h3
          refine ⟨_, rfl, q H' p s3 np ?_⟩
          rw [h3, ed]
          rfl
      · have w3 : ¬ way = 3 := fun z => c (decide_eq_true (by rw [z]; rfl))
        rw [if_neg w3] at ed
        refine ⟨_, rfl, q J2 p s2 np ?_⟩
        rw [hp2, ed]
    refine ⟨_, rfl, rfl, _, rfl, ite2 (fun c => ?_) (fun c => ?_)⟩
    · -- a value for all cells
      have w1 : way = 1 := by
        have := V.int.inj (of_decide_eq_true c)
        omega
      subst w1
      refine ⟨_, rfl, h1, rfl, ⟨_, sq (s1 _ _ hh1)⟩, ?_⟩
      refine for_list (K := K) (a := h1) (xs := cs.map V.int) (fun i σ H' => ∃ v6 v7, σ = [some (.ref d), some (.int ((1 : Nat) : Int)), some (.ref h1), some (.ref h2), some (.int x), some (.ref p), v6, v7] ∧ Same H H' ∧ H' p = some (.lst ((fillV vals (cs.take i) x).map V.int)))
        ⟨none, none, rfl, s1, hp⟩ (fun i σ H' _ ⟨_, _, _, s3, _⟩ => sq (s3 _ _ hh1)) ?_ ?_
      · rintro i y σ H' hi ⟨v6, v7, rfl, s3, h3⟩
        obtain ⟨c1, hc1, rfl⟩ := map_at hi
        have q1 := bc c1 (at_mem hc1)
        refine ⟨_, rfl, _, rfl, _, rfl, p, _, c1, c1.toNat, rfl, rfl, h3, ?_, _, _, rfl, same_mut s3 np, ?_⟩
        · refine ixN_at q1.1 ?_
          rw [List.length_map, fillV_len]
          exact q1.2
        · rw [upd_same, map_set']
          have e : fillV vals (cs.take (i + 1)) x = (fillV vals (cs.take i) x).set c1.toNat x := fold_more hc1
          rw [e]
      · rintro σ H' ⟨v6, v7, rfl, s3, h3⟩
        rw [List.length_map, List.take_length] at h3
        refine ⟨_, rfl, _, _, rfl, rfl, _, rfl, iteF ?_⟩
        exact part4 _ _ H' _ s3 h3 (fillV_len _ _ _) rfl
    · have w1 : ¬ way = 1 := fun z => c (decide_eq_true (by rw [z]; rfl))
      refine ⟨_, rfl, _, _, rfl, rfl, _, rfl, ite2 (fun c2 => ?_) (fun c2 => ?_)⟩
      · have w2 : 1 < (way : Int) := of_decide_eq_true c2
        have hv : (if (decide (V.int (way : Int) = V.int 4)) = true then (1 : Int) else 0) = if way = 4 then 1 else 0 := by
          by_cases h4 : way = 4
          · rw [if_pos h4, h4]
            rfl
          · rw [if_neg h4, if_neg (fun z => h4 (by have := V.int.inj (of_decide_eq_true z); omega))]
        refine ⟨_, rfl, _, rfl, h1, h2, _, _, rfl, sq (s1 _ _ hh1), sq (s1 _ _ hh2), ?_⟩
        refine RZ.for_zipL (K := K) (a := h1) (b := h2) (xs := cs.map V.int) (ys := ds.map V.int) (by rw [List.length_map, List.length_map, ecd])
          (fun i σ H' => ∃ v6 v7, σ = [some (.ref d), some (.int (way : Int)), some (.ref h1), some (.ref h2), some (.int x), some (.ref p), v6, v7] ∧ Same H H' ∧ H' p = some (.lst ((((cs.zip ds).take i).foldl (fun vs z => vs.set z.1.toNat (vals.getD z.2.toNat 0 + (if way = 4 then 1 else 0) * vals.getD z.1.toNat 0)) vals).map V.int)))
          ⟨none, none, rfl, s1, hp⟩ (fun i σ H' ⟨_, _, _, s3, _⟩ => ⟨sq (s3 _ _ hh1), sq (s3 _ _ hh2)⟩) ?_ ?_
        · rintro i y z t σ H' hy hz ⟨v6, v7, rfl, s3, h3⟩ nt
          obtain ⟨c1, hc1, rfl⟩ := map_at hy
          obtain ⟨c2, hc2, rfl⟩ := map_at hz
          have q1 := bc c1 (at_mem hc1)
          have q2 := bd c2 (at_mem hc2)
          have s4 : Same H (upd H' t (.tup [.int c1, .int c2])) := s3.trans (same_new nt)
          refine ⟨t, _, rfl, .inl (.inl upd_same), rfl, _, _, rfl, _, _, rfl, rfl, ?_⟩
          refine ⟨_, rfl, _, rfl, d, _, _, _, rfl, rfl, sq (s4 _ _ hd), at_cell q2.1 q2.2, _, rfl, rfl, .inr ⟨_, rfl, _, rfl, _, rfl, d, _, _, _, rfl, rfl, sq (s4 _ _ hd), at_cell q1.1 q1.2, _, _, rfl, rfl, .inl ?_, _, _, rfl, rfl, ?_⟩⟩
          · split
            · exact ⟨by decide, by decide⟩
            · exact ⟨by decide, by decide⟩
          · refine ⟨_, rfl, _, rfl, p, _, c1, c1.toNat, rfl, rfl, same_new nt _ _ h3, ?_, _, _, rfl, same_mut s4 np, ?_⟩
            · refine ixN_at q1.1 ?_
              rw [List.length_map, fold_set_len' (fun z => vals.getD z.2.toNat 0 + (if way = 4 then 1 else 0) * vals.getD z.1.toNat 0)]
              exact q1.2
            · rw [upd_same, fold_more (zip_at hc1 hc2)]
              show some (HO.lst (List.set _ _ (V.int (vals.getD c2.toNat 0 + (if (decide (V.int (way : Int) = V.int 4)) = true then (1 : Int) else 0) * vals.getD c1.toNat 0)))) = _
              rw [hv, map_set']
        · rintro σ H' ⟨v6, v7, rfl, s3, h3⟩
          rw [List.length_map, List.take_of_length_le (by rw [List.length_zip]; exact Nat.min_le_left _ _), fold_zip (fun z => vals.getD z.2.toNat 0 + (if way = 4 then 1 else 0) * vals.getD z.1.toNat 0)] at h3
          refine part4 _ _ H' _ s3 h3 (fold_set_len _ _) ?_
          rcases way5 hw with rfl | rfl | rfl | rfl | rfl
          · omega
          · omega
          · show writeV vals cs (readV vals ds) = writeV vals cs ((cs.zip ds).map fun z => vals.getD z.2.toNat 0 + 0 * vals.getD z.1.toNat 0)
            rw [zip_snd vals cs ds ecd]
          · show writeV (writeV vals cs (readV vals ds)) ds (readV vals cs) = writeV (writeV vals cs ((cs.zip ds).map fun z => vals.getD z.2.toNat 0 + 0 * vals.getD z.1.toNat 0)) ds (readV vals cs)
            rw [zip_snd vals cs ds ecd]
          · show writeV vals cs (List.zipWith (· + ·) (readV vals cs) (readV vals ds)) = writeV vals cs ((cs.zip ds).map fun z => vals.getD z.2.toNat 0 + 1 * vals.getD z.1.toNat 0)
            rw [zip_both vals cs ds]
      · have w0 : way = 0 := by
          have : ¬ 1 < (way : Int) := fun z => c2 (decide_eq_true z)
          omega
        subst w0
        exact part4 _ _ J vals s1 hp rfl rfl
end
end K81
/-! All that is refused. -/
namespace K81
open PySem PySem.Spec PyProof.Rows L2 He
theorem shaped_word (k : Kd) (n : Int) : SeqAt.shaped (.tuple [.str k.word, .int n]) = true := by
  have h : PyData.strOk k.word = true := by cases k <;> decide +kernel
  unfold SeqAt.shaped
  have h1 : (PyData.tuple [PyData.str k.word, PyData.int n]).canLay0 = true := by
    show (PyData.strOk k.word && (PyData.canLay0 (.int n) && PyData.canLayAll0 [])) = true
    rw [h]
    rfl
  have h2 : (PyData.tuple [PyData.str k.word, PyData.int n]).depth ≤ 64 := by
    show 1 ≤ 64
    decide
  rw [h1, decide_eq_true h2]
  rfl
theorem wide_ok {room first size : Int} (h0 : 0 ≤ first) (h1 : first < room) (s1 : 1 ≤ size) (s2 : size ≤ 1000000000) : VOk room first [(size, 0)] := by
  have e1 : lowA [(size, 0)] = 0 := by
    unfold lowA
    simp [mn]
  have e2 : highA [(size, 0)] = 0 := by
    unfold highA
    simp [mx]
  refine ⟨⟨by show 1 ≤ 8; decide, fun p hp => ?_⟩, by rw [e1]; omega, by rw [e2]; omega⟩
  have e : p = (size, 0) := by simpa using hp
  rw [e]
  exact ⟨s1, s2⟩
theorem wide_cnt (size : Int) : cnt (kept [(size, 0)]) = size := by
  rw [cnt_kept]
  unfold cnt
  exact cntL_one size
theorem Tups.one {H : Hp} {t : Addr} {p : Int × Int} (e : H t = some (.tup [.int p.1, .int p.2])) : Tups H [t] [p] := Tups.push Tups.nil e
def spAllRef (K : PySem.W.Frag) : Sp := fun vs H Q _ => ∃ (a s h one : Addr) (ns vals : List Int) (room g1 : Int) (ax : Ax) (way : Nat), vs = [.ref a, .int room, .ref s, .ref one, .int (way : Int)] ∧ SqL K H a (ns.map V.int) ∧ ns.length ≤ 63 ∧ (1 ≤ way ∧ way ≤ 4) ∧ StoreAt K H s h vals ∧
  ViewAt K H one room g1 ax ∧ cnt ax ≤ 4096 ∧ room = (vals.length : Int) ∧ ∀ H', Same H H' → Q (.bl true) H'
section
variable {P : Program} {w : World} {K : PySem.W.Frag} {mg : Str → Option Value} {base : Heap}
theorem sc_lall : FnScope ["_law_script", "_law_room", "_law_store", "_law_one", "_law_way", "_law_size", "_law_many", "_law_beyond"] ["_law_script", "_law_room", "_law_store", "_law_one", "_law_way"] (defScope s_lall) := ⟨rfl, rfl, rfl, by decide +kernel, rfl, by decide +kernel, by decide +kernel⟩
/-- a word asked for, told: the comparison -/
theorem word_eq {H : Hp} {t p : Addr} {k : Kd} {n : Int} (ht : H t = some (.tup [.str k.word, .int (k.num n)])) (hp : H p = some (.tup [.str k.word, .int (k.num n)])) :
    ∃ a b, Dp K H (.ref t) a ∧ Dp K H (.ref p) b ∧ SeqAt.shaped a = true ∧ SeqAt.shaped b = true ∧ PyData.eqv a b = true :=
  ⟨.tuple [.str k.word, .int (k.num n)], .tuple [.str k.word, .int (k.num n)], .tup (sqt ht) (.cons (.str _) (.cons (.int _) .nil)), .tup (sqt hp) (.cons (.str _) (.cons (.int _) .nil)), shaped_word _ _, shaped_word _ _, eqv_self (shaped_word _ _)⟩
theorem made_same {H H1 H' : Hp} {v : Addr} (nv : H v = none) (s : Same H H1) (k : ∀ b o, b ≠ v → H1 b = some o → H' b = some o) : Same H H' := fun b o e => k b o (fun z => by
  rw [z, nv] at e
  cases e) (s _ _ e)
theorem g_lall (T : Txt K mg) (GD : Gd P w K mg base CX0 1 "_law_draw" ["_law_script", "_law_k", "_law_many"] (spDraw K)) (KV : Kl P w K mg base CX0 4 "View" ["self", "room", "first", "axes"] (spViewInit K))
    (GF : Gd P w K mg base CX0 7 "_law_refused" ["_law_way", "_law_one", "_law_other", "_law_store"] (spRefused K)) : Gd P w K mg base CX0 8 "_law_all_refused" ["_law_script", "_law_room", "_law_store", "_law_one", "_law_way"] (spAllRef K) := by
  obtain ⟨fd, F⟩ := T.d__law_all_refused
  refine ⟨_, fd, fok0 F sc_lall (fun vs H Q E h => ?_) (fun cdv A outer s H vs Q E hr h => ?_), T.g__law_all_refused, F.kp, bnd F fun _ _ _ _ _ _ us hl => match us, hl with | [_, _, _, _, _], _ => rfl⟩
  · obtain ⟨a, s, h, one, ns, vals, room, g1, ax, way, rfl, _⟩ := h
    rfl
  · obtain ⟨a, s, h, one, ns, vals, room, g1, ax, way, rfl, hS, hlen, ⟨w1, w4⟩, hst, hV, c4, er, q⟩ := h
    have hr1 : Room 1 _ := hr.mono (by decide)
    have hr5 : Room 5 _ := hr.mono (by decide)
    refine' ⟨_, pss_cons ?s1 (pss_cons ?s2 (pss_cons ?s3 (pss_cons ?s4 (pss_cons ?s5 (pss_cons ?s6 (pss_cons ?s7 (pss_one ?s8))))))), ?last⟩
    case s1 => exact ps_set (i := 5) sc_lall.nd rfl (.inl rfl) (pe_ix ix_list (pe_lst (pa_cons pe_int (pa_cons (pe_op op_pow pe_int pe_int) (pa_cons (pe_op op_add pe_int (pe_g GD hr1 pass0 (pa_cons (pv 0) (pa_cons pe_int (pa_cons (pe_op op_pow pe_int pe_int) pa_nil))))) pa_nil)))) (pe_g GD hr1 pass0 (pa_cons (pv 0) (pa_cons pe_int (pa_cons pe_int pa_nil)))) (fun _ _ => rfl))
    case s2 => exact ps_set (i := 6) sc_lall.nd rfl (.inl rfl) (pe_k KV hr5 pass0 (pa_cons (pv 1) (pa_cons (pe_g GD hr1 pass0 (pa_cons (pv 0) (pa_cons pe_int (pa_cons (pv 1) pa_nil)))) (pa_cons (pe_lst (pa_cons (pe_tup (pa_cons (pv 5) (pa_cons pe_int pa_nil))) pa_nil)) pa_nil))))
    case s3 => exact ps_set (i := 7) sc_lall.nd rfl (.inl rfl) (pe_k KV hr5 pass0 (pa_cons (pe_op op_add (pe_op op_add (pv 1) pe_int) (pe_g GD hr1 pass0 (pa_cons (pv 0) (pa_cons pe_int (pa_cons pe_int pa_nil))))) (pa_cons pe_int (pa_cons (pe_lst (pa_cons (pe_tup (pa_cons (pv 5) (pa_cons pe_int pa_nil))) pa_nil)) pa_nil))))
    case s4 => exact ps_if (pt_cmpR (op_neD hr.units) (pe_g GF hr pass0 (pa_cons (pv 4) (pa_cons (pv 6) (pa_cons (pv 6) (pa_cons (pv 2) pa_nil))))) (pe_tup (pa_cons pe_str (pa_cons (pv 5) pa_nil))) (nomark _)) pss_never pss_nil
    case s5 => exact ps_if (pt_cmpR (op_neD hr.units) (pe_g GF hr pass0 (pa_cons (pv 4) (pa_cons (pv 7) (pa_cons (pv 7) (pa_cons (pv 2) pa_nil))))) (pe_tup (pa_cons pe_str (pa_cons pe_int pa_nil))) (nomark _)) pss_never pss_nil
    case s6 => exact ps_if (pt_cmpR op_eq (pv 4) pe_int (nomark _)) (pss_one (ps_ret pe_bl)) pss_nil
    case s7 => exact ps_if (PW.pt (pw_or (pt_cmpR (op_neD hr.units) (pe_g GF hr pass0 (pa_cons (pv 4) (pa_cons (pv 3) (pa_cons (pv 7) (pa_cons pe_non pa_nil))))) (pe_tup (pa_cons pe_str (pa_cons pe_int pa_nil))) (nomark _))
      (pw_or1 (pt_cmpR (op_neD hr.units) (pe_g GF hr pass0 (pa_cons (pv 4) (pa_cons (pv 7) (pa_cons (pv 3) (pa_cons pe_non pa_nil))))) (pe_tup (pa_cons pe_str (pa_cons pe_int pa_nil))) (nomark _))))) pss_never pss_nil
    case s8 => exact ps_ret (pe_and (pe_cmpR (op_eqD hr.units) (pe_g GF hr pass0 (pa_cons (pv 4) (pa_cons (pv 3) (pa_cons (pv 6) (pa_cons pe_non pa_nil))))) (pe_tup (pa_cons pe_str (pa_cons pe_int pa_nil))) (nomark _))
      (pe_one (pe_cmpR (op_eqD hr.units) (pe_g GF hr pass0 (pa_cons (pv 4) (pa_cons (pv 6) (pa_cons (pv 3) (pa_cons pe_non pa_nil))))) (pe_tup (pa_cons pe_str (pa_cons pe_int pa_nil))) (nomark _))))
    have hvl := hst.1
    have room1 : 1 ≤ room := by omega
    have room2 : room ≤ 4096 := by omega
    -- the size
    refine ⟨_, _, rfl, rfl, ⟨by decide, by decide, by decide⟩, _, rfl, _, _, rfl, rfl, ⟨by decide, by decide, by decide⟩, a, ns, _, _, rfl, hS, hlen, by decide, by decide, by show (0 : Int) < 10 ^ (6 : Int).toNat; decide, fun d d0 d1 => ?_⟩
    have d1 : d < 1000000 := d1
    refine ⟨_, _, rfl, rfl, (by show 3 ≤ sizeLine; decide), fun pz npz => ?_⟩
    have s1 : Same H (upd H pz (.lst [.int 4097, .int (10 ^ (9 : Int).toNat), .int (4097 + d)])) := same_new npz
    have hpz : (upd H pz (.lst [.int 4097, .int (10 ^ (9 : Int).toNat), .int (4097 + d)])) pz = some (.lst [.int 4097, .int (10 ^ (9 : Int).toNat), .int (4097 + d)]) := upd_same
    generalize upd H pz (.lst [.int 4097, .int (10 ^ (9 : Int).toNat), .int (4097 + d)]) = J1 at s1 hpz ⊢
    refine ⟨_, rfl, a, ns, 19, 3, rfl, s1.seq hS, hlen, by decide, by decide, by decide, fun i i0 i1 => ?_⟩
    obtain ⟨size, eat, z1, z2⟩ : ∃ size, atI [V.int 4097, .int (10 ^ (9 : Int).toNat), .int (4097 + d)] i = some (.int size) ∧ 4096 < size ∧ size ≤ 1000000000 := by
      have e : i = 0 ∨ i = 1 ∨ i = 2 := by omega
      rcases e with rfl | rfl | rfl
      · exact ⟨_, rfl, by decide, by decide⟩
      · exact ⟨_, rfl, by decide, by decide⟩
      · exact ⟨_, rfl, by omega, by omega⟩
    refine ⟨pz, _, i, _, rfl, rfl, sq hpz, eat, ?_⟩
    -- many
    refine ⟨_, rfl, _, rfl, _, rfl, a, ns, 20, room, rfl, s1.seq hS, hlen, by decide, by decide, by omega, fun f f0 f1 => ?_⟩
    refine ⟨_, rfl, (by show 2 ≤ sizeLine; decide), fun pt npt => ⟨(by show 1 ≤ sizeLine; decide), fun pl npl => ?_⟩⟩
    have s2 : Same J1 (upd J1 pt (.tup [.int size, .int 0])) := same_new npt
    have hpt : (upd J1 pt (.tup [.int size, .int 0])) pt = some (.tup [.int size, .int 0]) := upd_same
    generalize upd J1 pt (.tup [.int size, .int 0]) = J2 at s2 hpt npl ⊢
    have s3 : Same J2 (upd J2 pl (.lst [.ref pt])) := same_new npl
    have hpl : (upd J2 pl (.lst [.ref pt])) pl = some (.lst [.ref pt]) := upd_same
    generalize upd J2 pl (.lst [.ref pt]) = J3 at s3 hpl ⊢
    intro v dv nv ndv nvdv
    have s4 := same_two (o1 := .own v) (o2 := .ins (ga K "View") dv []) nv ndv
    refine ⟨v, dv, pl, room, f, [(size, 0)], rfl, upd_same, ⟨[pt], s4 _ _ hpl, Tups.one (s4 _ _ (s3 _ _ hpt))⟩, room1, by omega, wide_ok f0 f1 (by omega) z2, fun J4 k4 hMany => ⟨rfl, ?_⟩⟩
    have s5 : Same H J4 := ((s1.trans s2).trans s3).trans (made_same nv s4 k4)
    -- beyond
    refine ⟨_, rfl, _, _, rfl, rfl, _, rfl, a, ns, 21, 9, rfl, s5.seq hS, hlen, by decide, by decide, by decide, fun g h0 h1 => ?_⟩
    refine ⟨_, _, rfl, rfl, _, rfl, (by show 2 ≤ sizeLine; decide), fun pt npt => ⟨(by show 1 ≤ sizeLine; decide), fun pl npl => ?_⟩⟩
    have s6 : Same J4 (upd J4 pt (.tup [.int size, .int 0])) := same_new npt
    have hpt : (upd J4 pt (.tup [.int size, .int 0])) pt = some (.tup [.int size, .int 0]) := upd_same
    generalize upd J4 pt (.tup [.int size, .int 0]) = J5 at s6 hpt npl ⊢
    have s7 : Same J5 (upd J5 pl (.lst [.ref pt])) := same_new npl
    have hpl : (upd J5 pl (.lst [.ref pt])) pl = some (.lst [.ref pt]) := upd_same
    generalize upd J5 pl (.lst [.ref pt]) = J6 at s7 hpl ⊢
    intro b db nb ndb nbdb
    have s8 := same_two (o1 := .own b) (o2 := .ins (ga K "View") db []) nb ndb
    refine ⟨b, db, pl, room + 1 + g, 0, [(size, 0)], rfl, upd_same, ⟨[pt], s8 _ _ hpl, Tups.one (s8 _ _ (s7 _ _ hpt))⟩, by omega, by omega, wide_ok (Int.le_refl _) (by omega) (by omega) z2, fun J7 k7 hBey => ⟨rfl, ?_⟩⟩
    have s9 : Same J4 J7 := (s6.trans s7).trans (made_same nb s8 k7)
    have hM7 := hMany.mono s9
    have S7 := s5.trans s9
    -- too many
    refine ⟨_, rfl, _, rfl, _, rfl, _, rfl, way, v, v, .ref s, room, room, f, f, _, _, .many, size, rfl, ⟨w1, w4⟩, hM7, hM7, .inl ⟨s, h, vals, rfl, hst.mono S7, rfl, rfl, .inl ⟨rfl, (wide_cnt size).symm, er, by rw [wide_cnt]; exact z1⟩⟩, fun J8 t8 s10 ht8 => ?_⟩
    refine ⟨_, rfl, (by show 2 ≤ sizeLine; decide), fun p8 np8 => ?_⟩
    obtain ⟨ea, eb, e1, e2, e3, e4, e5⟩ := word_eq (k := .many) (n := size) (same_new np8 _ _ ht8) upd_same
    refine ⟨ea, eb, e1, e2, e3, e4, false, by rw [e5]; rfl, iteF ?_⟩
    have s11 : Same J7 (upd J8 p8 (.tup [.str Kd.many.word, .int size])) := s10.trans (same_new np8)
    -- another room
    refine ⟨_, rfl, _, rfl, _, rfl, _, rfl, way, b, b, .ref s, _, _, 0, 0, _, _, .view, 0, rfl, ⟨w1, w4⟩, hBey.mono s11, hBey.mono s11, .inl ⟨s, h, vals, rfl, hst.mono (S7.trans s11), rfl, rfl, .inr ⟨rfl, rfl, by omega⟩⟩, fun J9 t9 s12 ht9 => ?_⟩
    refine ⟨(by show 2 ≤ sizeLine; decide), fun p9 np9 => ?_⟩
    obtain ⟨ea, eb, e1, e2, e3, e4, e5⟩ := word_eq (k := .view) (n := 0) (same_new np9 _ _ ht9) upd_same
    refine ⟨ea, eb, e1, e2, e3, e4, false, by rw [e5]; rfl, iteF ?_⟩
    have s13 : Same J7 (upd J9 p9 (.tup [.str Kd.view.word, .int 0])) := (s11.trans s12).trans (same_new np9)
    clear ea eb e1 e2 e3 e4 e5
    refine ⟨_, rfl, rfl, _, rfl, ite2 (fun c => ?_) (fun c => ?_)⟩
    · exact q _ (S7.trans s13)
    have w2 : 2 ≤ way := by
      rcases Nat.lt_or_ge way 2 with z | z
      · exact absurd (by have e : way = 1 := by omega
                         rw [e]; rfl) c
      · exact z
    -- the pairs
    have hV7 := hV.mono S7
    refine ⟨_, rfl, _, rfl, _, rfl, way, one, b, .non, _, _, _, _, _, _, .pair, 0, rfl, ⟨w1, w4⟩, hV7.mono s13, hBey.mono s13, .inr ⟨rfl, w2, rfl, .inl ⟨rfl, by omega⟩⟩, fun J10 t10 s14 ht10 => ?_⟩
    refine ⟨(by show 2 ≤ sizeLine; decide), fun p10 np10 => ?_⟩
    obtain ⟨ea, eb, e1, e2, e3, e4, e5⟩ := word_eq (k := .pair) (n := 0) (same_new np10 _ _ ht10) upd_same
    refine ⟨ea, eb, e1, e2, e3, e4, false, by rw [e5]; rfl, iteF ?_⟩
    have s15 : Same J7 (upd J10 p10 (.tup [.str Kd.pair.word, .int 0])) := (s13.trans s14).trans (same_new np10)
    refine ⟨_, rfl, _, rfl, _, rfl, way, b, one, .non, _, _, _, _, _, _, .pair, 0, rfl, ⟨w1, w4⟩, hBey.mono s15, hV7.mono s15, .inr ⟨rfl, w2, rfl, .inl ⟨rfl, by omega⟩⟩, fun J11 t11 s16 ht11 => ?_⟩
    refine ⟨(by show 2 ≤ sizeLine; decide), fun p11 np11 => ?_⟩
    obtain ⟨ea, eb, e1, e2, e3, e4, e5⟩ := word_eq (k := .pair) (n := 0) (same_new np11 _ _ ht11) upd_same
    refine ⟨ea, eb, e1, e2, e3, e4, false, by rw [e5]; rfl, iteF ?_⟩
    have s17 : Same J7 (upd J11 p11 (.tup [.str Kd.pair.word, .int 0])) := (s15.trans s16).trans (same_new np11)
    -- the counts
    refine ⟨_, rfl, _, rfl, _, rfl, way, one, v, .non, _, _, _, _, _, _, .count, 0, rfl, ⟨w1, w4⟩, hV7.mono s17, hM7.mono s17, .inr ⟨rfl, w2, rfl, .inr ⟨rfl, rfl, by rw [wide_cnt]; omega⟩⟩, fun J12 t12 s18 ht12 => ?_⟩
    refine ⟨(by show 2 ≤ sizeLine; decide), fun p12 np12 => ?_⟩
    obtain ⟨ea, eb, e1, e2, e3, e4, e5⟩ := word_eq (k := .count) (n := 0) (same_new np12 _ _ ht12) upd_same
    refine ⟨ea, eb, e1, e2, e3, e4, true, by rw [e5], iteT ?_⟩
    have s19 : Same J7 (upd J12 p12 (.tup [.str Kd.count.word, .int 0])) := (s17.trans s18).trans (same_new np12)
    refine ⟨_, rfl, _, rfl, _, rfl, way, v, one, .non, _, _, _, _, _, _, .count, 0, rfl, ⟨w1, w4⟩, hM7.mono s19, hV7.mono s19, .inr ⟨rfl, w2, rfl, .inr ⟨rfl, rfl, by rw [wide_cnt]; omega⟩⟩, fun J13 t13 s20 ht13 => ?_⟩
    refine ⟨(by show 2 ≤ sizeLine; decide), fun p13 np13 => ?_⟩
    obtain ⟨ea, eb, e1, e2, e3, e4, e5⟩ := word_eq (k := .count) (n := 0) (same_new np13 _ _ ht13) upd_same
    refine ⟨ea, eb, e1, e2, e3, e4, ?_⟩
    rw [e5]
    exact q _ ((S7.trans s19).trans (s20.trans (same_new np13)))
end
end K81
/-! The law. -/
namespace K81
open PySem PySem.Spec PyProof.Rows L2 He
theorem same_but {B H H' : Hp} {h : Addr} (s : Same B H) (n : B h = none) (b : But h H H') : Same B H' := fun c o e => b c o (ne_of_none e n) (s c o e)
def spLaw (K : PySem.W.Frag) : Sp := fun vs H Q _ => ∃ (a : Addr) (ns : List Int), vs = [.ref a] ∧ SqL K H a (ns.map V.int) ∧ ns.length ≤ 63 ∧ ∀ H', Q (.bl true) H'
/-- the way of a turn -/
theorem way_of {d z : Int} {c : Bool} (d0 : 0 ≤ d) (d1 : d < 5) (z0 : 0 ≤ z) (z1 : z < 5) : ∃ way : Nat, way ≤ 4 ∧ atI [V.int d, V.int z] (if c then 1 else 0) = some (.int (way : Int)) := by
  cases c
  · refine ⟨d.toNat, by omega, ?_⟩
    show some (V.int d) = some (V.int ((d.toNat : Nat) : Int))
    rw [Int.toNat_of_nonneg d0]
  · refine ⟨z.toNat, by omega, ?_⟩
    show some (V.int z) = some (V.int ((z.toNat : Nat) : Int))
    rw [Int.toNat_of_nonneg z0]
theorem and_both {c : Bool} {A B : Prop} {R : Hp → Prop} {J : Hp} (h1 : c = true → (∀ J4, Same J J4 → R J4) → A) (h2 : R J → B) (h : ∀ J4, Same J J4 → R J4) : if c = true then A else B := by
  cases c with
  | true => exact iteT (h1 rfl h)
  | false => exact iteF (h2 (h J (Same.refl J)))
section
variable {P : Program} {w : World} {K : PySem.W.Frag} {mg : Str → Option Value} {base : Heap}
theorem sc_law : FnScope ["_law_script", "_law_room", "_law_to", "_law_source", "_law_one", "_law_other", "_law_here", "_law_there", "_law_due_here", "_law_store", "_law_value", "_law_k", "_law_way", "_law_statement", "_law_turn"] ["_law_script"] (defScope s_law) := ⟨rfl, rfl, rfl, by decide +kernel, rfl, by decide +kernel, by decide +kernel⟩
theorem f_law {fd : FuncData} (T : Txt K mg) (F : FnP K "law" "law" s_law (fAd K ("law", none)) fd) (GD : Gd P w K mg base CX0 1 "_law_draw" ["_law_script", "_law_k", "_law_many"] (spDraw K)) (GV : Gd P w K mg base CX0 3 "_law_views" ["_law_script"] (spLViews K)) (GLV : Gd P w K mg base CX0 6 "_law_view" ["_law_room", "_law_one"] (spLView K))
    (GLC : Gd P w K mg base CX0 1 "_law_cells" ["_law_first", "_law_axes_here"] (spLCells K)) (GVs : Gd P w K mg base CX0 2 "_law_values" ["_law_script", "_law_room"] (spValues K)) (KS : Kl P w K mg base CX0 1 "Store" ["self", "values"] (spStoreInit K))
    (GM : Gd P w K mg base (L2.CX P w) 6 "_law_made" ["_law_way", "_law_one", "_law_other", "_law_value"] (spMade K)) (GT : Gd P w K mg base CX0 2 "_law_told" ["_law_statement", "_law_way", "_law_one", "_law_other"] (spTold K))
    (GA : Gd P w K mg base CX0 8 "_law_all_refused" ["_law_script", "_law_room", "_law_store", "_law_one", "_law_way"] (spAllRef K)) (GU : Gd P w K mg base CX0 1 "_law_due" ["_law_due_here", "_law_way", "_law_here", "_law_there", "_law_value"] (spDue K))
    (GR : ∀ way, way ≤ 4 → Md P w K mg base (L2.CX P w) 6 (wayC way) "run" ["self", "store"] (spRun K way)) (MA : Md P w K mg base CX0 1 "Store" "all_values" ["self"] (spAll K)) (GL : Gd P w K mg base CX0 2 "_law_list" ["_law_found", "_law_due_here"] (spLList K)) :
    FnOk P w K mg base CX0 9 (fAd K ("law", none)) fd ["_law_script"] (spLaw K) := by
  refine fok0 F sc_law (fun vs H Q E h => ?_) (fun cdv A outer s H vs Q E hr h => ?_)
  · obtain ⟨a, ns, rfl, _⟩ := h
    rfl
  · obtain ⟨a, ns, rfl, hS, hlen, q⟩ := h
    have hr1 : Room 1 _ := hr.mono (by decide)
    have hr2 : Room 2 _ := hr.mono (by decide)
    have hr3 : Room 3 _ := hr.mono (by decide)
    have hr6 : Room 6 _ := hr.mono (by decide)
    refine' ⟨_, pss_cons ?s1 (pss_cons ?s2 (pss_cons ?s3 (pss_cons ?s4 (pss_cons ?s5 (pss_cons ?s6 (pss_cons ?s7 (pss_cons ?s8 (pss_cons ?s9 (pss_one ?s10))))))))), ?last⟩
    case s1 => exact ps_asg (pe_g GV hr3 pass0 (pa_cons (pv 0) pa_nil)) (pg_tup rfl (pgs_cons (pg_name (i := 1) sc_law.nd rfl (.inl rfl)) (pgs_cons (pg_name (i := 2) sc_law.nd rfl (.inl rfl)) (pgs_cons (pg_name (i := 3) sc_law.nd rfl (.inl rfl)) pgs_nil))))
    case s2 => exact ps_set (i := 4) sc_law.nd rfl (.inl rfl) (pe_g GLV hr6 pass0 (pa_cons (pv 1) (pa_cons (pv 2) pa_nil)))
    case s3 => exact ps_set (i := 5) sc_law.nd rfl (.inl rfl) (pe_g GLV hr6 pass0 (pa_cons (pv 1) (pa_cons (pv 3) pa_nil)))
    case s4 => exact ps_set (i := 6) sc_law.nd rfl (.inl rfl) (pe_g GLC hr1 pass0 (pa_cons (pe_ix ix_tup (pv 2) pe_int (fun _ _ => rfl)) (pa_cons (pe_ix ix_tup (pv 2) pe_int (fun _ _ => rfl)) pa_nil)))
    case s5 => exact ps_set (i := 7) sc_law.nd rfl (.inl rfl) (pe_g GLC hr1 pass0 (pa_cons (pe_ix ix_tup (pv 3) pe_int (fun _ _ => rfl)) (pa_cons (pe_ix ix_tup (pv 3) pe_int (fun _ _ => rfl)) pa_nil)))
    case s6 => exact ps_set (i := 8) sc_law.nd rfl (.inl rfl) (pe_g GVs hr2 pass0 (pa_cons (pv 0) (pa_cons (pv 1) pa_nil)))
    case s7 => exact ps_set (i := 9) sc_law.nd rfl (.inl rfl) (pe_k KS hr2 pass0 (pa_cons (pe_callTy call_list_of (by rfl) T.f_list (by decide +kernel) (pa_cons (pv 8) pa_nil)) pa_nil))
    case s8 => exact ps_set (i := 10) sc_law.nd rfl (.inl rfl) (pe_g GD hr1 pass0 (pa_cons (pv 0) (pa_cons pe_int (pa_cons (pe_op op_pow pe_int pe_int) pa_nil))))
    case s9 =>
      refine' ps_for PassesOwn.never rfl (pi_range1 (by exact rfl) T.f_range (pa_cons pe_int pa_nil)) (pg_name (i := 11) sc_law.nd rfl (.inl rfl)) (pss_cons ?b1 (pss_cons ?b2 (pss_cons ?b3 (pss_cons ?b4 (pss_one ?b5)))))
      case b1 => exact ps_set (i := 12) sc_law.nd rfl (.inl rfl) (pe_ix ix_list (pe_lst (pa_cons (pe_g GD hr1 pass0 (pa_cons (pv 0) (pa_cons (pe_op op_add pe_int (pv 11)) (pa_cons pe_int pa_nil)))) (pa_cons (pe_op op_mod (pv 11) pe_int) pa_nil)))
        (pe_callTy call_int1 (by rfl) T.f_int (by decide +kernel) (pa_cons (pe_cmpR op_gt (pv 11) pe_int (nomark _)) pa_nil)) (fun _ _ => rfl))
      case b2 => exact ps_set (i := 13) sc_law.nd rfl (.inl rfl) (pe_g GM hr6 passL (pa_cons (pv 12) (pa_cons (pv 4) (pa_cons (pv 5) (pa_cons (pe_op op_add (pv 10) (pv 11)) pa_nil)))))
      case b3 => exact ps_if (pt_not (pt_val (pe_g GT hr2 pass0 (pa_cons (pv 13) (pa_cons (pv 12) (pa_cons (pv 4) (pa_cons (pv 5) pa_nil))))))) pss_never pss_nil
      case b4 => exact ps_if (PW.pt (pw_and (pt_cmpR op_gt (pv 12) pe_int (nomark _)) (pw_and1 (pt_not (pt_val (pe_g GA hr pass0 (pa_cons (pv 0) (pa_cons (pv 1) (pa_cons (pv 9) (pa_cons (pv 4) (pa_cons (pv 12) pa_nil))))))))))) pss_never pss_nil
      case b5 =>
        refine' ps_for PassesOwn.never rfl (pi_range1 (by exact rfl) T.f_range (pa_cons pe_int pa_nil)) (pg_name (i := 14) sc_law.nd rfl (.inl rfl)) (pss_cons ?c1 (pss_one ?c2))
        case c1 => exact ps_set (i := 8) sc_law.nd rfl (.inl rfl) (pe_g GU hr1 pass0 (pa_cons (pv 8) (pa_cons (pv 12) (pa_cons (pv 6) (pa_cons (pv 7) (pa_cons (pe_op op_add (pv 10) (pv 11)) pa_nil))))))
        case c2 => exact ps_if (PW.pt (pw_or (pt_cmpR op_notN (pe_mAny (pv 13) GR hr6 passL (pa_cons (pv 9) pa_nil)) pe_non (nomark _)) (pw_or1 (pt_not (pt_val (pe_g GL hr2 pass0 (pa_cons (pe_m0 (pv 9) MA hr1 pass0) (pa_cons (pv 8) pa_nil)))))))) pss_never pss_nil
    case s10 => exact ps_ret (pe_and (pe_callB call_isi (by rfl) T.f_isinstance (by decide +kernel) (pa_cons (pe_g GM hr6 passL (pa_cons pe_int (pa_cons (pv 4) (pa_cons (pv 5) (pa_cons pe_int pa_nil))))) (pa_cons (pe_glob (v := .ref (ga K "Statement")) (by rfl) T.g_Statement rfl) pa_nil)))
      (pe_one (pe_callB call_isi (by rfl) T.f_isinstance (by decide +kernel) (pa_cons (pe_g GM hr6 passL (pa_cons pe_int (pa_cons (pv 4) (pa_cons (pv 5) (pa_cons pe_int pa_nil))))) (pa_cons (pe_glob (v := .ref (ga K "Statement")) (by rfl) T.g_Statement rfl) pa_nil)))))
    -- the views
    refine ⟨_, rfl, a, ns, rfl, hS, hlen, fun H1 t t1 t2 l1 l2 room g1 g2 ax bx s1 ht ht1 ht2 hA hB okA okB ec c60 r1 r2 => ?_⟩
    refine ⟨t, _, rfl, sqt ht, rfl, _, _, rfl, _, _, rfl, _, _, rfl, rfl, ?_⟩
    refine ⟨_, rfl, _, rfl, t1, l1, room, g1, ax, rfl, ht1, hA, r1, by omega, okA, fun H2 vA s2 hVA => ?_⟩
    refine ⟨_, rfl, _, rfl, t2, l2, room, g2, bx, rfl, s2 _ _ ht2, hB.mono s2, r1, by omega, okB, fun H3 vB s3 hVB => ?_⟩
    have s23 := s2.trans s3
    have ecd : (cellsF g1 ax).length = (cellsF g2 bx).length := by
      have e1 := okA.len
      have e2 := okB.len
      omega
    -- the cells
    refine ⟨_, rfl, t1, _, _, _, rfl, rfl, sqt (s23 _ _ ht1), rfl, _, rfl, t1, _, _, _, rfl, rfl, sqt (s23 _ _ ht1), rfl, l1, g1, ax, rfl, hA.mono s23, okA.1.2, by omega, fun H4 pA s4 npA hpA => ?_⟩
    have s24 := s23.trans s4
    refine ⟨_, rfl, t2, _, _, _, rfl, rfl, sqt (s24 _ _ ht2), rfl, _, rfl, t2, _, _, _, rfl, rfl, sqt (s24 _ _ ht2), rfl, l2, g2, bx, rfl, hB.mono s24, okB.1.2, by omega, fun H5 pB s5 npB hpB => ?_⟩
    have s25 := s24.trans s5
    -- the values, the store
    refine ⟨_, rfl, _, rfl, a, ns, room, rfl, (s1.trans s25).seq hS, hlen, r1, by omega, fun H6 pd vals s6 npd evals hpd => ?_⟩
    refine ⟨_, rfl, pd, _, rfl, .inl (sq hpd), fun pc npc => ?_⟩
    have s7 : Same H6 (upd H6 pc (.lst (vals.map V.int))) := same_new npc
    have hpc : (upd H6 pc (.lst (vals.map V.int))) pc = some (.lst (vals.map V.int)) := upd_same
    generalize upd H6 pc (.lst (vals.map V.int)) = B at s7 hpc ⊢
    intro st dst nst ndst nne
    have s8 := same_two (o1 := .own st) (o2 := .ins (ga K "Store") dst []) nst ndst
    refine ⟨st, dst, pc, vals, rfl, upd_same, s8 _ _ hpc, by omega, by omega, fun H8 h k8 nh8 hst8 hh8 => ⟨rfl, ?_⟩⟩
    have sB : Same B H8 := made_same nst s8 k8
    have nh : B h = none := by
      cases e : B h with
      | none => rfl
      | some o =>
        exact nomatch (s8 _ _ e).symm.trans nh8
    have s67 := s6.trans s7
    have bS : SqL K B a (ns.map V.int) := ((s1.trans s25).trans s67).seq hS
    have bVA : ViewAt K B vA room g1 (kept ax) := hVA.mono (((s3.trans s4).trans s5).trans s67)
    have bVB : ViewAt K B vB room g2 (kept bx) := hVB.mono ((s4.trans s5).trans s67)
    have bpA : B pA = some (.lst ((cellsF g1 ax).map V.int)) := (s5.trans s67) _ _ hpA
    have bpB : B pB = some (.lst ((cellsF g2 bx).map V.int)) := s67 _ _ hpB
    have bpd : B pd = some (.lst (vals.map V.int)) := s7 _ _ hpd
    have ec2 : cnt (kept ax) = cnt (kept bx) := by rw [cnt_kept, cnt_kept]; exact ec
    have c602 : cnt (kept ax) ≤ 60 := by rw [cnt_kept]; exact c60
    clear s1 s2 s3 s4 s5 s6 s7 s8 s23 s24 s25 s67 hA hB hVA hVB hpA hpB hpd hpc hS ht ht1 ht2 npA npB npd npc nst ndst k8 nh8
    -- the number
    refine ⟨_, rfl, _, _, rfl, rfl, ⟨by decide, by decide, by decide⟩, a, ns, 17, _, rfl, sB.seq bS, hlen, by decide, by decide, by show (0 : Int) < 10 ^ (59 : Int).toNat; decide, fun val v0 v1 => ?_⟩
    clear v0 v1
    -- the loop
    refine ⟨8, rfl, by decide, by decide, ?_⟩
    refine for_range (lo := 0) (n := (8 : Int).toNat) (fun k σ H' => ∃ (vals : List Int) (dh : Addr) (v11 v12 v13 v14 : Option V), σ = [some (.ref a), some (.int room), some (.ref t1), some (.ref t2), some (.ref vA), some (.ref vB), some (.ref pA), some (.ref pB), some (.ref dh), some (.ref st), some (.int val), v11, v12, v13, v14] ∧ Same B H' ∧
        StoreAt K H' st h vals ∧ H' dh = some (.lst (vals.map V.int)) ∧ dh ≠ h ∧ ((vals.length : Nat) : Int) = room)
      ⟨vals, pd, none, none, none, none, rfl, sB, ⟨⟨by omega, by omega⟩, dst, hst8, hh8⟩, sB _ _ bpd, ne_of_none bpd nh, evals⟩ ?_ ?_
    · clear sB hst8 hh8 evals bpd
      rintro k σ H' hk ⟨vals, dh, v11, v12, v13, v14, rfl, sB, hst, hdh, ndh, evals⟩
      have hk : k < 8 := hk
      -- the way
      refine ⟨_, rfl, _, rfl, _, _, rfl, rfl, a, ns, _, 5, rfl, sB.seq bS, hlen, by omega, by omega, by decide, fun d d0 d1 => ?_⟩
      refine ⟨_, rfl, _, _, rfl, rfl, (by show (0 : Int) < 5; decide), (by show 2 ≤ sizeLine; decide), fun pw npw => ?_⟩
      have s1 : Same H' (upd H' pw (.lst [.int d, .int ((0 + (k : Int)) % 5)])) := same_new npw
      have hpw : (upd H' pw (.lst [.int d, .int ((0 + (k : Int)) % 5)])) pw = some (.lst [.int d, .int ((0 + (k : Int)) % 5)]) := upd_same
      generalize upd H' pw (.lst [.int d, .int ((0 + (k : Int)) % 5)]) = J1 at s1 hpw ⊢
      obtain ⟨way, hw, eat⟩ := way_of (c := decide (2 < 0 + (k : Int))) d0 d1 (Int.emod_nonneg (0 + (k : Int)) (by decide : (5 : Int) ≠ 0)) (Int.emod_lt_of_pos (0 + (k : Int)) (by decide : (0 : Int) < 5))
      refine ⟨_, rfl, _, _, rfl, rfl, .inr ⟨_, rfl, pw, _, _, _, rfl, rfl, sq hpw, eat, ?_⟩⟩
      -- the statement
      have S1 := sB.trans s1
      refine ⟨_, rfl, _, rfl, _, rfl, _, rfl, _, rfl, _, _, rfl, rfl, way, vA, vB, _, room, room, g1, g2, kept ax, kept bx, rfl, hw, bVA.mono S1, bVB.mono S1, .inl ⟨rfl, ec2, fun J2 sm s2 nsm hsm => ?_⟩⟩
      have S2 := S1.trans s2
      refine ⟨_, rfl, _, rfl, _, rfl, _, rfl, sm, vA, vB, way, _, room, room, g1, g2, kept ax, kept bx, rfl, hw, hsm, bVA.mono S2, bVB.mono S2, fun J3 s3 => ⟨_, rfl, iteF ?_⟩⟩
      have S13 := (s1.trans s2).trans s3
      have S3 := S2.trans s3
      refine ⟨_, rfl, _, _, rfl, rfl, _, rfl, ?_⟩
      refine and_both (J := J3) (fun c go => ⟨_, rfl, _, rfl, _, rfl, _, rfl, _, rfl, a, st, h, vA, ns, vals, room, g1, kept ax, way, rfl, S3.seq bS, hlen, ⟨?_, hw⟩, hst.mono S13, bVA.mono S3, by omega, evals.symm, fun J4 s4 => ⟨_, rfl, iteF (go J4 s4)⟩⟩) (fun go => iteF go) (fun J4 s4 => ?_)
      · have := of_decide_eq_true c
        omega
      have S14 := S13.trans s4
      have S4 := S3.trans s4
      have hsm4 := hsm.mono (s3.trans s4)
      have hst4 := hst.mono S14
      have hdh4 := S14 _ _ hdh
      clear hsm hst hdh s1 hpw eat S1 s2 S2 nsm s3 S13 S3 s4 S14 sB npw d0 d1
      -- the two turns
      refine ⟨2, rfl, by decide, by decide, ?_⟩
      refine for_range (lo := 0) (n := (2 : Int).toNat) (fun j σ H'' => ∃ (vals : List Int) (dh : Addr) (v14 : Option V), σ = [some (.ref a), some (.int room), some (.ref t1), some (.ref t2), some (.ref vA), some (.ref vB), some (.ref pA), some (.ref pB), some (.ref dh), some (.ref st), some (.int val), some (.int (0 + (k : Int))), some (.int (way : Int)), some (.ref sm), v14] ∧ Same B H'' ∧
          StAt K H'' sm way vA vB (val + (0 + (k : Int))) ∧ StoreAt K H'' st h vals ∧ H'' dh = some (.lst (vals.map V.int)) ∧ dh ≠ h ∧ ((vals.length : Nat) : Int) = room)
        ⟨vals, dh, v14, rfl, S4, hsm4, hst4, hdh4, ndh, evals⟩ ?_ ?_
      · clear S4 hsm4 hst4 hdh4 ndh evals
        rintro j σ H'' hj ⟨vals, dh, v14, rfl, sB, hsm, hst, hdh, ndh, evals⟩
        refine ⟨_, rfl, _, rfl, _, rfl, _, rfl, _, rfl, _, rfl, _, _, rfl, rfl, dh, pA, pB, way, _, vals, cellsF g1 ax, cellsF g2 bx, rfl, hw, hdh, sB _ _ bpA, sB _ _ bpB, ecd, fun c hc => ?_, fun c hc => ?_, fun J1 p s1 np hp => ?_⟩
        · have := okA.cells hc
          omega
        · have := okB.cells hc
          omega
        have S1 := sB.trans s1
        have hsm1 := hsm.mono s1
        have hst1 := hst.mono s1
        obtain ⟨dt, hdt⟩ := id hsm1
        have nph : p ≠ h := (ne_of_none hst.2.choose_spec.2 np).symm
        refine ⟨_, rfl, way, sm, dt, _, hw, rfl, hdt, wayF_run way vA vB _, _, rfl, sm, st, h, vA, vB, _, vals, room, g1, g2, kept ax, kept bx, rfl, hsm1, hst1, bVA.mono S1, bVB.mono S1, ec2, .inl ⟨evals.symm, by omega, fun J2 but2 hh2 => ?_⟩⟩
        rw [cellsF_kept, cellsF_kept] at hh2
        refine ⟨rfl, _, rfl, iteF ?_⟩
        have S2 := same_but S1 nh but2
        have hst2 : StoreAt K J2 st h (dueV way vals (cellsF g1 ax) (cellsF g2 bx) (val + (0 + (k : Int)))) := by
          obtain ⟨_, dx, e1, e2⟩ := id hst1
          exact ⟨by rw [dueV_len]; omega, dx, but2 _ _ (ne_li e2 e1).symm e1, hh2⟩
        have hsm2 : StAt K J2 sm way vA vB (val + (0 + (k : Int))) := ⟨dt, but2 _ _ (ne_li hst1.2.choose_spec.2 hdt).symm hdt⟩
        have hp2 := but2 _ _ nph hp
        have evals2 : (((dueV way vals (cellsF g1 ax) (cellsF g2 bx) (val + (0 + (k : Int)))).length : Nat) : Int) = room := by
          rw [dueV_len]
          exact evals
        generalize dueV way vals (cellsF g1 ax) (cellsF g2 bx) (val + (0 + (k : Int))) = vals2 at hst2 hp2 evals2
        obtain ⟨_, dx2, hds, _⟩ := id hst2
        refine ⟨_, rfl, st, dx2, _, rfl, hds, no_held (by decide +kernel), st, h, vals2, rfl, hst2, fun J3 pl s3 npl hpl => ?_⟩
        refine ⟨_, rfl, pl, p, vals2, rfl, hpl, s3 _ _ hp2, by omega, fun J4 s4 => ⟨_, rfl, iteF ?_⟩⟩
        have s34 := s3.trans s4
        exact ⟨vals2, p, _, rfl, S2.trans s34, hsm2.mono s34, hst2.mono s34, s34 _ _ hp2, nph, evals2⟩
      · rintro σ H'' ⟨vals, dh, v14, rfl, sB, hsm, hst, hdh, ndh, evals⟩
        exact ⟨vals, dh, _, _, _, v14, rfl, sB, hst, hdh, ndh, evals⟩
    · rintro σ H' ⟨vals, dh, v11, v12, v13, v14, rfl, sB, _⟩
      refine ⟨_, rfl, _, rfl, 4, vA, vB, 0, room, room, g1, g2, kept ax, kept bx, rfl, by decide, bVA.mono sB, bVB.mono sB, .inl ⟨rfl, ec2, fun J1 sm s1 _ hsm => ?_⟩⟩
      obtain ⟨dt, hdt⟩ := hsm
      refine ⟨_, _, _, _, true, rfl, .own _, .base (.ins hdt T.c_Raise T.ext.rC.1 T.ext.hn T.ext.ht T.ext.rC.2), T.ext.rs, true, rfl, iteT ?_⟩
      have S1 := sB.trans s1
      refine ⟨_, rfl, _, rfl, 1, vA, vB, 0, room, room, g1, g2, kept ax, kept bx, rfl, by decide, bVA.mono S1, bVB.mono S1, .inl ⟨rfl, ec2, fun J2 sn s2 _ hsn => ?_⟩⟩
      obtain ⟨dn, hdn⟩ := hsn
      exact ⟨_, _, _, _, true, rfl, .own _, .base (.ins hdn T.c_Fill T.ext.fC.1 T.ext.hn T.ext.ht T.ext.fC.2), T.ext.fs, q _⟩
end
end K81
/-! All defs together. -/
namespace K81
open PySem PySem.Spec PyProof.Rows L2 He
section
variable {P : Program} {w : World} {K : PySem.W.Frag} {mg : Str → Option Value} {base : Heap}
theorem run_all (T : Txt K mg) : ∀ way, way ≤ 4 → Md P w K mg base (L2.CX P w) 6 (wayC way) "run" ["self", "store"] (spRun K way) := by
  have GS : Md P w K mg base CX0 1 "View" "sizes" ["self"] (spSizes K) := m_sizes T
  have GT : Md P w K mg base CX0 2 "View" "count" ["self"] (spCount K) := m_count T GS (g_countOf T)
  have GC : Md P w K mg base (L2.CX P w) 3 "View" "cells" ["self"] (spCells K) := m_cells T (tm_ok T) GT
  have GN : Md P w K mg base (L2.CX P w) 1 "Store" "need" ["self", "view"] (spNeed K) := m_need T
  have GR : Md P w K mg base (L2.CX P w) 4 "Store" "read" ["self", "view"] (spRead K) := m_read T GN GC
  have GP : Md P w K mg base CX0 4 "Store" "put" ["self", "view", "values"] (spPut K) := m_put T GN GC GT
  intro way hw
  rcases way5 hw with rfl | rfl | rfl | rfl | rfl
  · exact m_Statement_run T
  · exact m_Fill_run T (m_fill T GN GC)
  · exact m_Copy_run T (m_copied T GN GT GR GP)
  · exact m_Swap_run T GR GP
  · exact m_Raise_run T GR GP
theorem writes_all (T : Txt K mg) : ∀ way, way ≤ 4 → Md P w K mg base CX0 1 (wayC way) "writes" ["self"] (spTellA K way wrA) :=
  tell_all (m_Statement_writes T) ⟨_, m_Fill_writes T, fun _ _ _ => rfl⟩ ⟨_, m_Copy_writes T, fun _ _ => rfl⟩ ⟨_, m_Swap_writes T, fun _ _ => rfl⟩ ⟨_, m_Raise_writes T, fun _ _ => rfl⟩ fun _ _ => rfl
theorem fill_reads (T : Txt K mg) : Md P w K mg base CX0 1 "Fill" "reads" ["self"] (spTell K "Fill" "to" "value" (fun _ _ => [])) := by
  obtain ⟨g, fd, F, c, hm, hb⟩ := (m_Fill_reads (P := P) (w := w) (base := base) T).ex
  exact ⟨g, fd, F.imp fun vs H Q E h => by
    obtain ⟨st, dx, u, v, e, ht, q⟩ := h
    exact ⟨st, e, q⟩, c, hm, hb⟩
theorem reads_all (T : Txt K mg) : ∀ way, way ≤ 4 → Md P w K mg base CX0 1 (wayC way) "reads" ["self"] (spTellA K way rdA) :=
  tell_all (m_Statement_reads T) ⟨_, fill_reads T, fun _ _ _ => rfl⟩ ⟨_, m_Copy_reads T, fun _ _ => rfl⟩ ⟨_, m_Swap_reads T, fun _ _ => rfl⟩ ⟨_, m_Raise_reads T, fun _ _ => rfl⟩ fun _ _ => rfl
theorem law_all {fd : FuncData} (T : Txt K mg) (F : FnP K "law" "law" s_law (fAd K ("law", none)) fd) : FnOk P w K mg base CX0 9 (fAd K ("law", none)) fd ["_law_script"] (spLaw K) := by
  have GW : Gd P w K mg base CX0 1 "is_whole" ["thing"] spIsWhole := g_isWhole T
  have GX : Gd P w K mg base CX0 2 "is_axis" ["thing"] (spIsAxis K) := g_isAxis T GW
  have GK : Gd P w K mg base CX0 3 "kept_axes" ["axes"] spKeptAxes := g_keptAxes T GX
  have KV : Kl P w K mg base CX0 4 "View" ["self", "room", "first", "axes"] (spViewInit K) := k_view T GW GK (m_least T) (m_greatest T)
  have GT : Md P w K mg base CX0 2 "View" "count" ["self"] (spCount K) := m_count T (m_sizes T) (g_countOf T)
  have GN : Gd P w K mg base (L2.CX P w) 3 "need_pair" ["one", "other"] (spNeedPair K) := g_needPair T GT
  have GM : Gd P w K mg base (L2.CX P w) 6 "_law_made" ["_law_way", "_law_one", "_law_other", "_law_value"] (spMade K) := g_made T (k_Fill T) (k_Copy T GN) (k_Swap T GN) (k_Raise T GN)
  have GF : Gd P w K mg base CX0 7 "_law_refused" ["_law_way", "_law_one", "_law_other", "_law_store"] (spRefused K) := g_refused T GM (run_all T) (word_ok T)
  have GD : Gd P w K mg base CX0 1 "_law_draw" ["_law_script", "_law_k", "_law_many"] (spDraw K) := g_draw T
  exact f_law T F GD (g_lviews T GD (g_lsizes T GD) (g_laxes T GD) (g_lreach T)) (g_lview T KV) (g_lcells T) (g_lvalues T GD) (k_store T) GM (g_told T (writes_all T) (reads_all T) (g_lsame T)) (g_lall T GD KV GF) (g_due T) (run_all T) (m_all T) (g_llist T (g_lwhole T))
end
end K81
set_option maxHeartbeats 0
/-! The head: the top by one kernel run, the facts read off its end. -/
namespace K81
open PySem PySem.Spec PyProof.Rows L2
def obsK (K : PySem.W.Frag) : He.AlD × Bool := (He.obsD fa fn K, extB K)
def obsMG (g : Addr → Option Obj) : He.AlD × Bool := obsK (He.frG g (He.asD g 5))
def hkM : PySem.W.Hook where
  α := He.AlD × Bool
  obs := fun s => obsMG s.heap.get?
  val := fun _ => (He.valD fn, true)
  says := fun _ h => ∃ K : PySem.W.Frag, K.In h ∧ He.SaysD fa fn K ∧ extB K = true
  of := fun _ _ e => ⟨_, He.frG_in, congrArg (fun z : He.AlD × Bool => z.1) e, congrArg (fun z : He.AlD × Bool => z.2) e⟩
  keeps := fun _ _ _ ⟨K, hK, c⟩ k => ⟨K, PySem.W.Frag.In.keeps hK k, c⟩
abbrev R : PySem.W.OpenRow := PySem.W.OpenLaw.row PySem.Challenge.rw_pacehall_k81_statements
def ob (s : PySem.W.SharedT) : He.AlD × Bool := obsMG (HandSHeadRun.getT s)
theorem ob_eq (s : PySem.W.SharedT) : ob s = hkM.obs s.abs := by
  have e : HandSHeadRun.getT s = s.abs.heap.get? := funext (HandSHeadRun.getT_eq s)
  show obsMG (HandSHeadRun.getT s) = obsMG s.abs.heap.get?
  rw [e]
def loose1 : List Str := ["_wall", "__name__", "PaceError", "NoPlace", "NoCells", "NoView", "NoCount", "NoPair", "TooMany", "need_pair", "Statement", "Fill", "Copy", "Swap", "Raise", "MOST_stores", "Store", "is_whole", "count_of", "paces_of", "need_place", "number_of", "MOST_views", "MOST_ROOM", "MOST_AXES", "MOST_SIZE", "is_axis", "kept_axes", "View", "_law_draw"]
def loose2 : List Str := ["_law_whole", "_law_list", "_law_sizes", "_law_axes", "_law_reach", "_law_views", "_law_cells", "_law_values", "_law_view", "_law_same", "_law_made", "_law_told", "_law_due", "_law_word", "_law_refused", "_law_all_refused"]
def loose : List Str := loose1 ++ loose2
theorem run (w : World) : HandSHeadRun.RunEq R (PySem.W.view R.prog [52]) hkM ob 6000 loose w := by
  intro os
  kernel_rfl
end K81
set_option maxHeartbeats 0
/-! The law, from its head. -/
namespace K81
open PySem PySem.Spec PyProof.Rows L2 He
theorem at_law {P : Program} {w : World} {K : PySem.W.Frag} {h : Heap} {mg : Str → Option Value} {fa1 : Addr} (X : K.In h) (G : h.Ns mainGlobals mg) (hfa : mg ("law" : Str) = some (.ref fa1)) (c : SaysD fa fn K) (e : extB K = true) :
    ∃ fd : FuncData, (∀ (s : Shared) (v : Value), BindsTo s fd ⟨[v], []⟩ [("_law_script", v)]) ∧ ∀ base : Heap, K.In base → base.Ns mainGlobals mg → FnOk P w K mg base CX0 9 fa1 fd ["_law_script"] (spLaw K) := by
  have T : Txt K mg := txt_of X G c e
  obtain ⟨fd, F⟩ := T.d_law
  have same := hfa.symm.trans T.g_law
  cases same
  have b := FunD.bindsA (ps := ["_law_script"]) F fun _ _ _ _ _ _ us hl => match us, hl with | [_], _ => rfl
  exact ⟨fd, fun s v => b s [v] rfl, fun base _ _ => law_all T F⟩
end K81
open PySem PySem.W PySem.Calls PyProof.Rows
theorem PySem.Challenge.cw_pacehall_k81_statements_holds : PySem.Challenge.rw_pacehall_k81_statements.Holds := by
  w_on; o_law
  refine HandSHeadRun.head_any (r := OpenLaw.row PySem.Challenge.rw_pacehall_k81_statements) (q := view (OpenLaw.row PySem.Challenge.rw_pacehall_k81_statements).prog [52]) (H := K81.hkM) (ob := K81.ob) (M := 6000) (loose := K81.loose) (d := HandSHeadRun.topDef (OpenLaw.row PySem.Challenge.rw_pacehall_k81_statements).prog 52) (kwd := []) K81.ob_eq
    (by kernel_rfl) (fun s => by kernel_rfl) K81.run (by kernel_rfl) (by kernel_rfl) (by kernel_rfl) (by rfl) (by first | assumption | decide +kernel) (by decide +kernel) ⟨rfl, rfl, rfl, rfl, rfl, by decide +kernel⟩ ?hw ?hc
  case hw => w_witness2
  case hc =>
    refine L2.walk_ofE (l := PySem.Challenge.rw_pacehall_k81_statements) (n := 63) (k := 9) (x := "_law_script") (CX := L2.CX0) rfl (by decide) (by kernel_rfl) ⟨rfl, by decide, by decide⟩ ?F (fun _ _ _ _ z => z)
    intro w mg fa h Y G hmg0
    obtain ⟨K, KX, c, e⟩ := Y
    have hmg : mg ("law" : PySem.Str) = some (.ref fa) := by
      have en : (HandSHeadRun.topDef (OpenLaw.row PySem.Challenge.rw_pacehall_k81_statements).prog 52).name = ("law" : PySem.Str) := by kernel_rfl
      rw [← en]
      exact hmg0
    obtain ⟨fd, hb, hF⟩ := K81.at_law (P := (PySem.Challenge.rw_pacehall_k81_statements).prog) (w := w) KX G hmg c e
    exact ⟨K, fd, K81.spLaw K, KX, hb, fun H a ns hl _ hS => ⟨a, ns, rfl, hS, hl, fun _ => rfl⟩, hF⟩
