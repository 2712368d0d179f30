import PyProof.Rows.All
import Wide.All
import OpenK.AllK
import Wide.FinOn
import KE.RegKCallOwn
import KE.KFmtOwn
import HandS.ForMost
import HandS.Exc
import HandS.TryOnly
import HandS.ExcOwn
import HandS.WordsExc
import HandS.Defaults
import HandS.Flow
import HandS.Wide
import HandS.WideBits
import HandS.Star
import HandS.Property
import HandS.ClsMeth
import HandS.SlotsOwn
import HandS.IsInst
import HandS.FStr
import HandS.StrMore
import HandS.Evl
import HandS.Walk
import HandS.Style
import HandS.Head0
import HandS.Head1
import HandS.Head2
import HandS.HeadEnd
import HandS.HeadHook1
import HandS.HeadHook2
import HandS.HeadHook3
import HandS.HeadNt
import PySem.Challenge.RW_addressnets_k01_version_4_texts
set_option Elab.async false
set_option linter.all false
set_option maxRecDepth 100000
set_option maxHeartbeats 4000000
set_option pp.deepTerms false
set_option pp.deepTerms.threshold 5
set_option pp.maxSteps 1500
namespace An
open PySem PySem.W PySem.Spec PyProof.Rows L2 TL Bits
/-! ### a head's hook over any list of tests and any list of defs -/
def obsM (fb : List (Frag → Bool)) (fn : List He5.DefA) (K : Frag) : He.AlD := ((fb.all fun f => f K) && fn.all fun d => d.ok K, fn.map fun d => He5.fnA K (d.at_ K))
def SaysM (fb : List (Frag → Bool)) (fn : List He5.DefA) (K : Frag) : Prop := obsM fb fn K = He5.valA fn
def obsMG (n : Nat) (fb : List (Frag → Bool)) (fn : List He5.DefA) (g : Addr → Option Obj) : He.AlD := obsM fb fn (He.frG g (He5.asA g n))
def hookM (n : Nat) (fb : List (Frag → Bool)) (fn : List He5.DefA) : PySem.W.Hook where
  α := He.AlD
  obs := fun s => obsMG n fb fn s.heap.get?
  val := fun _ => He5.valA fn
  says := fun _ h => ∃ K : Frag, K.In h ∧ SaysM fb fn K
  of := fun _ _ e => ⟨_, He.frG_in, e⟩
  keeps := fun _ _ _ ⟨K, hK, c⟩ k => ⟨K, Frag.In.keeps hK k, c⟩
theorem obsMG_eq {n : Nat} {fb : List (Frag → Bool)} {fn : List He5.DefA} {g : Addr → Option Obj} {s : Shared} (h : ∀ a, g a = s.heap.get? a) : obsMG n fb fn g = (hookM n fb fn).obs s := by
  have e : g = s.heap.get? := funext h
  rw [e] <;> rfl
section
variable {fb : List (Frag → Bool)} {fn : List He5.DefA} {K : Frag}
theorem SaysM.fact (c : SaysM fb fn K) (i : Nat) {f : Frag → Bool} (h : fb[i]? = some f := by rfl) : f K = true := by
  have c1 := (He.ba (show ((fb.all fun f => f K) && fn.all fun d => d.ok K) = true from congrArg (fun z : He.AlD => z.1) c)).1
  exact List.all_eq_true.mp c1 f (List.mem_of_getElem? h)
theorem SaysM.def_ (c : SaysM fb fn K) (i : Nat) {d : He5.DefA} (h : fn[i]? = some d := by rfl) : ∃ fd, L2.FunD K d.name d.qual d.params d.body d.scope (d.dvs K) (d.kws K) (d.at_ K) fd := by
  have c2 := (He.ba (show ((fb.all fun f => f K) && fn.all fun d => d.ok K) = true from congrArg (fun z : He.AlD => z.1) c)).2
  have e : fn.map (fun d => He5.fnA K (d.at_ K)) = fn.map He5.DefA.val := congrArg (fun z : He.AlD => z.2) c
  have e2 : (fn.map fun d => He5.fnA K (d.at_ K))[i]? = (fn.map He5.DefA.val)[i]? := by rw [e]
  rw [List.getElem?_map, List.getElem?_map, h] at e2
  exact He5.DefA.funD (Option.some.inj e2) (List.all_eq_true.mp c2 d (List.mem_of_getElem? h))
end
def dG (x : Str) (st : Stmt) : He5.DefA := ⟨fun K => He.ga K x, x, x, defArgs st, defBody st, defScope st, [], []⟩
def dM (c m q : Str) (st : Stmt) : He5.DefA := ⟨fun K => He.ma K (He.ga K c) m, m, q, defArgs st, defBody st, defScope st, [], []⟩
/-- the getter of a property, the def of a classmethod -/
def wfA (K : Frag) (c : Str) (T : String) (m : Str) : Addr := He5.wf K (He.ga K c) T m
def dW (c : Str) (T : String) (m q : Str) (st : Stmt) : He5.DefA := ⟨fun K => wfA K c T m, m, q, defArgs st, defBody st, defScope st, [], []⟩
/-! ### a def of the text: no defaults -/
abbrev FnS (K : Frag) (x q : Str) (st : Stmt) (f : Addr) : Prop := ∃ fd, FunD K x q (defArgs st) (defBody st) (defScope st) [] [] f fd
abbrev Wc (P : Program) (w : World) (K : Frag) (mg : Str → Option Value) (base : Heap) (k : Nat) (f : Addr) (sp : Sp) : Prop := FnR P w K mg base (L2.CX P w) k f sp
section
variable {P : Program} {w : World} {K : Frag} {mg : Str → Option Value} {base : Heap}
theorem fnr {x q : Str} {st : Stmt} {f : Addr} {N ps : List Str} {k : Nat} {sp : Sp} (F : FnS K x q st f) (S : FnScope N ps (defScope st)) (len : ∀ vs H Q E, sp vs H Q E → vs.length = ps.length)
    (hb : ∀ (kV doc pm : Value) (an : Option Addr) (cdv ct : Value) (us : List Value), us.length = ps.length → bindArgs (PySem.W.fnOf x q (defArgs st) (defBody st) (defScope st) .none kV doc pm an cdv ct) ⟨us, []⟩ = pure (ps.zip us))
    (hbody : ∀ (cdv : Value) (A : Around) (outer : List Env) (s : Shared) (H : Hp) (vs : List V) (Q : VK) (E : XK), Room k (A.deeper (envOfC q (defScope st) s.heap.objs.size f cdv)) → sp vs H Q E →
      ∃ t, PSs (cxOf (L2.CX P w) P w K mg base N q (defScope st) f cdv A outer s H E) (defBody st) t ∧ t { nx := fun _ H' => Q .non H', rt := Q } (start N vs) H) : Wc P w K mg base (k + 1) f sp := by
  obtain ⟨fd, F⟩ := F
  have G := (F.ok (CX := L2.CX P w) (P := P) (w := w) (mg := mg) (base := base) S len hbody).raw (F.bindsN hb) .nil
  exact G.imp fun vs H Q E h => by rw [List.append_nil]; exact h
theorem Wc.or {k : Nat} {f : Addr} {sp sp' : Sp} (F : Wc P w K mg base k f sp) (G : Wc P w K mg base k f sp') : Wc P w K mg base k f (fun vs H Q E => sp vs H Q E ∨ sp' vs H Q E) :=
  fun A outer s H us vs Q E hr e0 r hs => hs.elim (F A outer s H us vs Q E hr e0 r) (G A outer s H us vs Q E hr e0 r)
end
/-- a def of the module, by its name -/
structure FnG (P : Program) (w : World) (K : Frag) (mg : Str → Option Value) (base : Heap) (k : Nat) (x : Str) (sp : Sp) : Prop where
  ok : Wc P w K mg base k (He.ga K x) sp
  kp : PySem.W.keepIn K (.ref (He.ga K x)) = true
  gl : mg x = some (.ref (He.ga K x))
section
variable {X : Cx} {k : Nat} {f C : Addr} {sp : Sp} {E : XK} {x m : Str} {p pos apos : Pos} {e o : Expr} {es : List Expr} {ta : TE} {t : TA}
def tF (sp : Sp) (E : XK) (t : TA) : TE := fun σ H Q => t σ H fun vs H1 => sp vs H1 Q E
theorem pe_f (F : FnG X.prog X.w X.K X.mg X.base k x sp) (hr : Room k X.A) (hx : Passes (L2.CX X.prog X.w) X E)
    (ha : PA X (e :: es) t) (hg : Gl X x := by rfl) (hdb : (x == ("__debug__" : Str)) = false := by decide) (he : starEach (e :: es) X.env = (false, eval e X.env) :: starEach es X.env := by rfl) (hpl : (backTo pos (starEach es X.env)).any (·.1) = false := by rfl) :
    PE X (.Call (.Name x p) (e :: es) [] pos) (tF sp E t) := by
  refine ⟨fun pins s σ H Q I h => ?_⟩
  refine wpAny_Call_Name_kw (ld_glob I hg F.gl ?_ hdb)
  refine PySem.W.callWith_K (h₀ := X.base) I.ok.mod.kin F.kp (thn (ha.run pos pins s σ H _ I h) fun us s1 ⟨vs, H1, I1, r, q⟩ => ⟨I1.kIn, ?_⟩) he hpl
  exact wpAny_call (run_fnR F.ok hr hx I1 r q)
theorem pe_never {e : Expr} : PE X e (fun _ _ _ => False) := ⟨fun _ _ _ _ _ _ h => h.elim⟩
theorem pss_never {l : List Stmt} : PSs X l (fun _ _ _ => False) := ⟨fun _ _ _ _ _ _ h => h.elim⟩
theorem pt_never {e : Expr} : PT X e (fun _ _ _ => False) := ⟨fun _ _ _ _ _ _ h => h.elim⟩
/-- a module's constant -/
theorem pe_gi {i : Int} (hm : ∃ t, X.mg x = some (.int i t)) (hg : Gl X x := by rfl) (hd : (x == ("__debug__" : Str)) = false := by decide) : PE X (.Name x pos) (tC (.int i)) := by
  obtain ⟨t, hm⟩ := hm
  exact pe_glob hg hm ⟨_, rfl⟩ hd
theorem pe_gs {z : Str} (hm : ∃ t, X.mg x = some (.str z t)) (hg : Gl X x := by rfl) (hd : (x == ("__debug__" : Str)) = false := by decide) : PE X (.Name x pos) (tC (.str z)) := by
  obtain ⟨t, hm⟩ := hm
  exact pe_glob hg hm ⟨_, rfl⟩ hd
end
end An
namespace An
open PySem PySem.W PySem.Spec PyProof.Rows L2 TL Bits
section
variable {X : Cx} {k : Nat} {C p g f : Addr} {sp : Sp} {E : XK} {x m : Str} {pos apos : Pos} {e o : Expr} {es : List Expr} {ta : TE} {t : TA}
/-! ### a property, by its getter's promise -/
def tPr (C : Addr) (sp : Sp) (ta : TE) : TE := fun σ H Q => ta σ H fun x H1 => ∃ a dx fs, x = .ref a ∧ H1 a = some (.ins C dx fs) ∧ sp [.ref a] H1 Q E0
theorem pe_pr (he : PE X e ta) (c : Cls X.K C) (hp : PropOf X.K C m p g) (F : Wc X.prog X.w X.K X.mg X.base k g sp) (hr : Room (k + 1) X.A) (hab : attributeBase e m X.env (eval e X.env) = eval e X.env := by rfl) :
    PE X (.Attribute e m pos) (tPr C sp ta) := by
  refine ⟨fun pins s σ H Q I h => attr_of hab (thn (he.run pins s σ H _ I h) fun u s1 hh => ?_)⟩
  obtain ⟨z, H1, I1, rz, a, dx, fs, rfl, ea, q⟩ := hh
  obtain rfl : u = Value.ref a := rz
  obtain ⟨mA, O, _⟩ := ins_get I1.hok ea
  obtain ⟨od, J, _⟩ := O.look
  obtain ⟨rest, hrec⟩ := hp.rec_
  have hc : (clsIn X.K C).isSome = true := by
    obtain ⟨cd, hc, _⟩ := any_some c.hd
    rw [hc] <;> rfl
  have I2 := I1.tok (s1.toks + 1)
  refine get_bind I1.kIn J (plainGet_of (c.get m)).1 (findObj_data hc hp.at_ hp.get hp.tak) (plainGet_of (c.get m)).2 (wpAny_call (prop_get (s := { s1 with toks := s1.toks + 1 }) I1.kIn hrec ?_))
  refine codeAny_mono (F X.A.in1 X.stack { s1 with toks := s1.toks + 1 } H1 [.ref a] [.ref a] Q E0 hr.in1 I2.env0.in1 (.cons rfl .nil) q) fun r s' hq => ?_
  match r, hq with
  | .error er, hq =>
    obtain ⟨_, _, _, _, _, _, _, _, _, _, _, _, z⟩ := (show L2.CX X.prog X.w X.stack H1 _ E0 er s' from hq)
    exact z.elim
  | .ok (.ret u), hq =>
    obtain ⟨v, H', I3, rv, q3⟩ := I2.after hq
    show wpAny _ _ (handedOut u) _ _ _
    rw [handedOut_of (handed_of rv)]
    exact wpAny_pure ⟨v, H', I3, rv, q3⟩
/-! ### o.m() by a promise -/
def tM0R (C : Addr) (m : Str) (sp : Sp) (E : XK) (ta : TE) : TE := fun σ H Q => ta σ H fun x H1 => ∃ a dx fs, x = .ref a ∧ H1 a = some (.ins C dx fs) ∧ fs.lookup m = none ∧ sp [x] H1 Q E
theorem pe_mt0R {pl : Sem Bool} (he : PE X o ta) (c : Cls X.K C) (hm : Meth X.K C m f) (F : Wc X.prog X.w X.K X.mg X.base k f sp) (hr : Room k X.A) (hx : Passes (L2.CX X.prog X.w) X E)
    (ht : eval (.Call (.Attribute o m apos) [] [] pos) X.env = (do
      let ov ← eval o X.env
      standAt apos.atName
      let (f, first) ← holding [ov] (getMethod ov m pl)
      callWith pos f first (backTo pos (starEach [] X.env)) (backToKw pos (keywordEach [] X.env))) := by rfl) :
    PE X (.Call (.Attribute o m apos) [] [] pos) (tM0R C m sp E ta) := by
  refine ⟨fun pins s σ H Q I h => methodCall_KW (pl := pl) (thn (he.run pins s σ H _ I h) fun u s1 hh => ?_) ht⟩
  obtain ⟨z, H1, I1, rz, a, dx, fs, rfl, ea, l, q⟩ := hh
  obtain rfl : u = Value.ref a := rz
  exact getmeth_ok I1 ea c hm l (callWith_K0 (first := [.ref a]) I1.kIn hm.kp (wpAny_call (run_fnR (us := [.ref a]) (vs := [.ref a]) F hr hx I1 (.cons rfl .nil) q)))
/-! ### str(o) by an own __str__ -/
def rStrOwn (C : Addr) (sp : Sp) (E : XK) : List V → Hp → VK → Prop := fun xs H Q => ∃ a dx fs, xs = [V.ref a] ∧ H a = some (.ins C dx fs) ∧ sp [.ref a] H (fun z H' => ∃ y, z = .str y ∧ Q z H') E
theorem call_strOwn (hm : Meth X.K C "__str__" g) (F : Wc X.prog X.w X.K X.mg X.base k g sp) (hr : Room (k + 2) X.A) (hx : Passes (L2.CX X.prog X.w) X E) : CallR X (.type "str") (rStrOwn C sp E) := by
  intro pins s σ H xs us Q I r h
  obtain ⟨a, dx, fs, rfl, ea, q⟩ := h
  obtain ⟨u, rfl, ru⟩ := r.one
  cases (show u = Value.ref a from ru)
  obtain ⟨mA, O, _⟩ := ins_get I.hok ea
  obtain ⟨od, J, _⟩ := O.look
  have hr2 : Room k X.A.in1.in1 := (show Room (k + 1) X.A.in1 from Room.in1 hr).in1
  refine kso_call hr2.units0 I.kIn J hm.at_ hm.fn (wpAny_mono (wpAny_call (SlX.run_at (us := [.ref a]) (ws := [.ref a]) F hr2 I.env0.in1.in1 hx I (.cons rfl .nil) q)) (fun w s' z => ?_) fun _ _ x => x)
  obtain ⟨z', H', I', rz, y, ey, qz⟩ := z
  subst ey
  obtain ⟨t, e⟩ := (show ∃ t, w = Value.str y t from rz)
  cases e
  exact ⟨.str y, H', I', ⟨t, rfl⟩, qz⟩
end
/-! ### xs + ys of any two lists that are read -/
section
variable {X : Cx}
def rCatL (K : Frag) : R2 := fun x y H Q => ∃ l b xs zs, x = .ref l ∧ y = .ref b ∧ SqL K H l xs ∧ SqL K H b zs ∧ xs.length + zs.length ≤ sizeLine ∧ ∀ p, H p = none → Q (.ref p) (upd H p (.lst (xs ++ zs)))
theorem op_catL : OpR X (binaryOp .Add) (rCatL X.K) := by
  intro pins s σ H x y v u Q I rx ry h
  obtain ⟨l, b, xs, zs, rfl, rfl, h1, h2, hz, q⟩ := h
  cases rx; cases ry
  obtain ⟨i1, r1, p1, _⟩ := I.list h1
  obtain ⟨i2, r2, p2, _⟩ := I.list h2
  obtain ⟨⟨c1, d1, t1, l1⟩, n1, e1, a1, b1, g1⟩ := p1
  obtain ⟨⟨c2, d2, t2, l2⟩, n2, e2, a2, b2, g2⟩ := p2
  dsimp only at a1 b1 g1 a2 b2 g2
  subst a1 b1 g1 a2 b2 g2
  have z1 := r1.length
  have z2 := r2.length
  refine concat_meets ⟨_, e1, rfl⟩ ⟨_, e2, rfl⟩ noFill_list_add seq_list_add PySem.F.slot_list_add PySem.F.entry_list_add (PySem.F.args_list_add_2 _ _) (list_addW l b i1.toArray i2.toArray n1 n2 none none l1 l2 (by rw [List.size_toArray, List.size_toArray]; omega)) ⟨e1, e2, ?_⟩
  have ea : i1.toArray ++ i2.toArray = (i1 ++ i2).toArray := by simp
  rw [ea]
  exact ⟨.ref _, _, I.lnew (t' := s.toks) (r1.append r2) (by rw [List.length_append]; omega), rfl, q _ I.fresh⟩
end
/-! ### passing on what a callee raises -/
theorem lz {a b : Nat} (h : Nat.ble a b = true := by rfl) : a ≤ b := Nat.le_of_ble_eq_true h
theorem upd_eq {H : Hp} {a : Addr} {o : HO} : upd H a o a = some o := if_pos rfl
theorem same_new {H H' : Hp} {p : Addr} {o : HO} (e : Same H H') (hp : H' p = none) : Same H (upd H' p o) := fun b u h => by
  rw [upd_ne (ne_of_none (e b u h) hp)]
  exact e b u h
/-- a property of a class -/
def propB (K : Frag) (c m : Str) : Bool := He.eqO (findIn K (.ref (He.ga K c)) m) (some (some (.ref (He.ma K (He.ga K c) m)))) &&
  (He.eqO (specialIn K (.ref (He.ma K (He.ga K c) m)) "__get__") (some (some (.builtin "property.__get__"))) && (decide (takesIn K (.ref (He.ma K (He.ga K c) m)) = some true) &&
  (match recIn K (He.ma K (He.ga K c) m) "property" with
    | some (.ref _ :: _) => true
    | _ => false)))
theorem propB_ok {K : Frag} {c m : Str} (h : propB K c m = true) : PropOf K (He.ga K c) m (He.ma K (He.ga K c) m) (wfA K c "property" m) := by
  obtain ⟨h1, h⟩ := He.ba h
  obtain ⟨h2, h⟩ := He.ba h
  obtain ⟨h3, h4⟩ := He.ba h
  refine ⟨He.eqO_ok h1, He.eqO_ok h2, of_decide_eq_true h3, ?_⟩
  unfold wfA He5.wf
  split at h4
  · rename_i f r e
    exact ⟨r, by rw [e]⟩
  · cases h4
/-- what isinstance asks of a class of one's own -/
structure TyI (K : Frag) (C : Addr) : Prop where
  cl : Cls K C
  ha : findIn K (.ref C) "__class__" = some (some (.builtin "object.__class__"))
  hn : specialIn K (.builtin "object.__class__") "__get__" = some (some (.builtin "getset_descriptor.__get__"))
  htk : takesIn K (.builtin "object.__class__") = some true
  hm : mroIn K C (.type "object") = some true
def tyB (K : Frag) (x : Str) : Bool := (He.Fa.cls x).ok K && (He.eqO (findIn K (.ref (He.ga K x)) "__class__") (some (some (.builtin "object.__class__"))) &&
  (He.eqO (specialIn K (.builtin "object.__class__") "__get__") (some (some (.builtin "getset_descriptor.__get__"))) && (decide (takesIn K (.builtin "object.__class__") = some true) && decide (mroIn K (He.ga K x) (.type "object") = some true))))
theorem tyB_ok {K : Frag} {x : Str} (h : tyB K x = true) : TyI K (He.ga K x) := by
  obtain ⟨h1, h⟩ := He.ba h
  obtain ⟨h2, h⟩ := He.ba h
  obtain ⟨h3, h⟩ := He.ba h
  obtain ⟨h4, h5⟩ := He.ba h
  exact ⟨He.cls_ok h1, He.eqO_ok h2, He.eqO_ok h3, of_decide_eq_true h4, of_decide_eq_true h5⟩
theorem TyI.tx {K : Frag} {C a dx : Addr} {H : Hp} {fs : List (Str × V)} (t : TyI K C) (e : H a = some (.ins C dx fs)) : TyX K H (.ref a) (.ref C) := .base (.ins e t.cl t.ha t.hn t.htk t.hm)
/-! ### a list of three ints that changes; all else stays -/
def Srcs (H : Hp) (a : Addr) : Prop := ∃ x y z : Int, H a = some (.lst [.int x, .int y, .int z])
def But (a : Addr) (H H' : Hp) : Prop := ∀ c o, H c = some o → c ≠ a → H' c = some o
theorem But.refl (a : Addr) (H : Hp) : But a H H := fun _ _ h _ => h
theorem But.trans {a : Addr} {H H1 H2 : Hp} (e : But a H H1) (f : But a H1 H2) : But a H H2 := fun c o h n => f c o (e c o h n) n
theorem But.same {a : Addr} {H H1 H2 : Hp} (e : But a H H1) (f : Same H1 H2) : But a H H2 := fun c o h n => f c o (e c o h n)
theorem same_but {a : Addr} {H H1 H2 : Hp} (e : Same H H1) (f : But a H1 H2) : But a H H2 := fun c o h n => f c o (e c o h) n
theorem but_of {a : Addr} {H H1 : Hp} (e : Same H H1) : But a H H1 := fun c o h _ => e c o h
theorem But.same0 {a : Addr} {H H1 : Hp} (e : But a H H1) (h : H a = none) : Same H H1 := fun c o k => e c o k (fun z => by rw [z, h] at k; cases k)
theorem But.upd {a : Addr} {H H1 : Hp} {o : HO} (e : But a H H1) : But a H (upd H1 a o) := fun c u h n => by rw [upd_ne n]; exact e c u h n
theorem But.new {a p : Addr} {H H1 : Hp} {o : HO} (e : But a H H1) (hp : H1 p = none) : But a H (L2.upd H1 p o) := e.same (same_new (Same.refl _) hp)
theorem Srcs.same {H H' : Hp} {a : Addr} (h : Srcs H a) (e : Same H H') : Srcs H' a := by
  obtain ⟨x, y, z, h⟩ := h
  exact ⟨x, y, z, e _ _ h⟩
theorem Srcs.new {H : Hp} {a p : Addr} {o : HO} (h : Srcs H a) (hp : H p = none) : Srcs (L2.upd H p o) a := h.same (same_new (Same.refl _) hp)
theorem Srcs.ne {H : Hp} {a p : Addr} (h : Srcs H a) (hp : H p = none) : p ≠ a := fun z => by
  obtain ⟨x, y, w, h⟩ := h
  rw [← z, hp] at h
  cases h
theorem Srcs.neO {H : Hp} {a p : Addr} {o : HO} (h : Srcs H a) (hp : H p = some o) (no : ∀ xs, o ≠ .lst xs) : p ≠ a := fun z => by
  obtain ⟨x, y, w, h⟩ := h
  rw [← z, hp] at h
  exact no _ (Option.some.inj h)
/-! ### an item of a list, drawn -/
theorem fa_nil {α : Type} {P : α → Prop} : ∀ v ∈ ([] : List α), P v := fun _ h => by cases h
theorem fa_cons {α : Type} {P : α → Prop} {x : α} {xs : List α} (h : P x) (t : ∀ v ∈ xs, P v) : ∀ v ∈ x :: xs, P v := fun v hv => by
  rcases List.mem_cons.mp hv with e | e
  · rw [e]; exact h
  · exact t v e
theorem pick {xs : List V} {P : V → Prop} {r : Int} (h0 : 0 ≤ r) (h1 : r < xs.length) (h : ∀ v ∈ xs, P v) : ∃ v, atI xs r = some v ∧ P v := by
  have hlt : r.toNat < xs.length := by omega
  refine ⟨xs[r.toNat], ?_, h _ (List.getElem_mem hlt)⟩
  have e := atI_nat (List.getElem?_eq_getElem hlt)
  rwa [Int.toNat_of_nonneg h0] at e
/-- a value that is an int within bounds -/
def IntB (lo hi : Int) (v : V) : Prop := ∃ i : Int, v = .int i ∧ lo ≤ i ∧ i < hi
theorem e32 : (2 : Int) ^ Int.toNat 32 = 4294967296 := by decide +kernel
theorem e128 : (2 : Int) ^ Int.toNat 128 = 340282366920938463463374607431768211456 := by decide +kernel
theorem e8 : (2 : Int) ^ Int.toNat 8 = 256 := by decide +kernel
theorem e16 : (2 : Int) ^ Int.toNat 16 = 65536 := by decide +kernel
theorem pow_pos' (n : Nat) : (1 : Int) ≤ 2 ^ n := by
  have h : 0 < 2 ^ n := Nat.pow_pos (by decide)
  have e : ((2 ^ n : Nat) : Int) = 2 ^ n := by simp
  omega
/-- one more digit -/
theorem dig_lt {B f v : Int} {i : Nat} (hB : 0 < B) (h0 : 0 ≤ f) (h1 : f < B ^ i) (v0 : 0 ≤ v) (v1 : v < B) : 0 ≤ f * B + v ∧ f * B + v < B ^ (i + 1) := by
  have a : 0 ≤ f * B := Int.mul_nonneg h0 (Int.le_of_lt hB)
  have b : (f + 1) * B ≤ B ^ i * B := Int.mul_le_mul_of_nonneg_right (by omega) (Int.le_of_lt hB)
  rw [Int.add_mul, Int.one_mul] at b
  rw [Int.pow_succ]
  omega
/-! ### comprehensions: the items xs by it, kept by p, each gives f -/
section
variable {J : It} {G : Hp → Prop} {Y : Nat → Hp → V → Hp → Prop} {α : Type}
theorem take_succ' {xs : List α} {i : Nat} {c : α} (h : xs[i]? = some c) : xs.take (i + 1) = xs.take i ++ [c] := by
  rw [List.take_add_one, h]; rfl
theorem lc_fm (xs : List α) (it : α → V) (f : α → V) (p : α → Bool) {n : Nat} (w : Walk J n G Y) (hn : n = xs.length) (hz : xs.length < sizeLine) {g : TG} {tt : TT} {te : TE} {vs : List Nat} {σ : L2.St} {H1 : Hp} {D : Addr} {Qd : Hp → Prop}
    (hY : ∀ i H x H', Y i H x H' → H' = H ∧ ∃ c, xs[i]? = some c ∧ x = it c) (hD : H1 D = none) (hG : ∀ H', Same H1 H' → G H')
    (hs : ∀ c ∈ xs, ∀ H, Same H1 H → ∀ (Qt : Hp → Prop) (Qe : V → Hp → Prop), (∀ H', Same H H' → p c = false → Qt H') → (∀ H', Same H H' → p c = true → Qe (f c) H') →
      g (it c) (wipe σ vs) H fun σ2 H2 => wipe σ2 vs = wipe σ vs ∧ tt σ2 H2 fun b H3 => if b = true then te σ2 H3 Qe else Qt H3)
    (hd : ∀ H', Same H1 H' → H' D = some (.lst ((xs.filter p).map f)) → Qd H') :
    ∃ W : Nat → Nat → Hp → Prop, (∃ m, W 0 m (upd H1 D (.lst []))) ∧ ∀ i m H, W i m H →
      (J.stop i H ∧ Qd H) ∨ (J.go i H ∧ ∃ Nx : Hp → Prop, (∀ H', Nx H' → ∃ m', m' < m ∧ W (i + 1) m' H') ∧ ∀ x H', J.yld i H x H' → g x (wipe σ vs) H' fun σ2 H2 => wipe σ2 vs = wipe σ vs ∧ tt σ2 H2 fun b H3 =>
        if b = true then te σ2 H3 fun y H4 => ∃ acc, H4 D = some (.lst acc) ∧ acc.length < sizeLine ∧ Nx (upd H4 D (.lst (acc ++ [y]))) else Nx H3) := by
  subst hn
  refine lc_it w (fun i H => Same H1 H ∧ H D = some (.lst (((xs.take i).filter p).map f))) ⟨same_new (Same.refl _) hD, upd_same⟩ (fun i H _ h => hG H h.1) ?_ ?_
  · rintro i x H H' hi ⟨sm, hl⟩ y
    obtain ⟨rfl, c, hc, rfl⟩ := hY i H x H' y
    refine hs c (List.mem_of_getElem? hc) _ sm _ _ (fun H2 s2 hp => ⟨sm.trans s2, ?_⟩) (fun H2 s2 hp => ⟨_, s2 _ _ hl, ?_, ?_, ?_⟩)
    · rw [take_succ' hc, List.filter_append]
      have e : [c].filter p = [] := by simp [hp]
      rw [e, List.append_nil]
      exact s2 _ _ hl
    · rw [List.length_map]
      refine Nat.lt_of_le_of_lt (List.length_filter_le _ _) (Nat.lt_of_le_of_lt ?_ hz)
      rw [List.length_take]; omega
    · intro b o hb
      rw [upd_ne (fun z => by rw [z, hD] at hb; cases hb)]
      exact s2 _ _ (sm _ _ hb)
    · rw [upd_same, take_succ' hc, List.filter_append, List.map_append]
      have e : [c].filter p = [c] := by simp [hp]
      rw [e]; rfl
  · rintro H ⟨sm, hl⟩
    refine hd H sm ?_
    rw [List.take_length] at hl
    exact hl
theorem lc_mp (xs : List α) (it : α → V) (f : α → V) {n : Nat} (w : Walk J n G Y) (hn : n = xs.length) (hz : xs.length < sizeLine) {g : TG} {te : TE} {vs : List Nat} {σ : L2.St} {H1 : Hp} {D : Addr} {Qd : Hp → Prop}
    (hY : ∀ i H x H', Y i H x H' → H' = H ∧ ∃ c, xs[i]? = some c ∧ x = it c) (hD : H1 D = none) (hG : ∀ H', Same H1 H' → G H')
    (hs : ∀ c ∈ xs, ∀ H, Same H1 H → ∀ (Qe : V → Hp → Prop), (∀ H', Same H H' → Qe (f c) H') → g (it c) (wipe σ vs) H fun σ2 H2 => wipe σ2 vs = wipe σ vs ∧ te σ2 H2 Qe)
    (hd : ∀ H', Same H1 H' → H' D = some (.lst (xs.map f)) → Qd H') :
    ∃ W : Nat → Nat → Hp → Prop, (∃ m, W 0 m (upd H1 D (.lst []))) ∧ ∀ i m H, W i m H →
      (J.stop i H ∧ Qd H) ∨ (J.go i H ∧ ∃ Nx : Hp → Prop, (∀ H', Nx H' → ∃ m', m' < m ∧ W (i + 1) m' H') ∧ ∀ x H', J.yld i H x H' → g x (wipe σ vs) H' fun σ2 H2 => wipe σ2 vs = wipe σ vs ∧ tYes σ2 H2 fun b H3 =>
        if b = true then te σ2 H3 fun y H4 => ∃ acc, H4 D = some (.lst acc) ∧ acc.length < sizeLine ∧ Nx (upd H4 D (.lst (acc ++ [y]))) else Nx H3) := by
  refine lc_fm xs it f (fun _ => true) w hn hz hY hD hG ?_ ?_
  · intro c hc H sm Qt Qe _ k
    have z := hs c hc H sm Qe (fun H' s' => k H' s' rfl)
    have e : (fun (σ2 : L2.St) (H2 : Hp) => wipe σ2 vs = wipe σ vs ∧ tYes σ2 H2 fun b H3 => if b = true then te σ2 H3 Qe else Qt H3) = fun σ2 H2 => wipe σ2 vs = wipe σ vs ∧ te σ2 H2 Qe := by
      funext σ2 H2
      show (_ ∧ (if true = true then te σ2 H2 Qe else Qt H2)) = _
      rw [if_pos rfl]
    rw [e]
    exact z
  · intro H' sm h
    refine hd H' sm ?_
    have e : xs.filter (fun _ => true) = xs := by simp
    rw [e] at h
    exact h
theorem yat_all {xs : List V} : ∀ i H x H', YAt xs i H x H' → H' = H ∧ ∃ c, xs[i]? = some c ∧ x = id c := fun _ _ _ _ h => ⟨h.1, _, h.2, rfl⟩
theorem yat_map {xs : List α} {it : α → V} : ∀ i H x H', YAt (xs.map it) i H x H' → H' = H ∧ ∃ c, xs[i]? = some c ∧ x = it c := fun i _ x _ h => by
  refine ⟨h.1, ?_⟩
  have e := h.2
  rw [List.getElem?_map] at e
  cases q : xs[i]? with
  | none => rw [q] at e; cases e
  | some c => rw [q] at e; exact ⟨c, rfl, (Option.some.inj e).symm⟩
/-- one sign as a text -/
def sgn (c : Nat) : V := .str ⟨#[c]⟩
theorem ystr {z : Str} : ∀ (i : Nat) (H : Hp) (v : V) (H' : Hp), (fun (i : Nat) (H : Hp) (v : V) (H' : Hp) => H' = H ∧ ∃ c, z.cps[i]? = some c ∧ v = V.str ⟨#[c]⟩) i H v H' → H' = H ∧ ∃ c, (tl z)[i]? = some c ∧ v = sgn c := fun i H v H' h => by
  obtain ⟨h1, c, hc, h2⟩ := h
  exact ⟨h1, c, by rw [← hc]; unfold tl; simp, h2⟩
theorem size_tl (z : Str) : z.cps.size = (tl z).length := by unfold tl; simp
end
/-! ### a class, called: its promise out of its __init__'s -/
structure FnC (P : Program) (w : World) (K : Frag) (mg : Str → Option Value) (base : Heap) (k : Nat) (x : Str) (sp : Sp) : Prop where
  ex : ∃ (f : Addr) (si : Sp), Mk K (He.ga K x) f ∧ Wc P w K mg base k f si ∧ ∀ vs H Q E, sp vs H Q E → ∀ a dx : Addr, H a = none → H dx = none → dx ≠ a →
    si (.ref a :: vs) (upd (upd H dx (.own a)) a (.ins (He.ga K x) dx [])) (fun v H2 => v = .non ∧ Q (.ref a) H2) E
  gl : mg x = some (.ref (He.ga K x))
section
variable {X : Cx} {k : Nat} {sp : Sp} {E : XK} {x : Str} {p pos : Pos} {e : Expr} {es : List Expr} {t : TA}
theorem pe_cl (F : FnC X.prog X.w X.K X.mg X.base k x sp) (hr : Room (k + 1) X.A) (hx : Passes (L2.CX X.prog X.w) X E) (ha : PA X (e :: es) t) (hg : Gl X x := by rfl) (hdb : (x == ("__debug__" : Str)) = false := by decide)
    (he : starEach (e :: es) X.env = (false, eval e X.env) :: starEach es X.env := by rfl) (hpl : (backTo pos (starEach es X.env)).any (·.1) = false := by rfl) :
    PE X (.Call (.Name x p) (e :: es) [] pos) (tF sp E t) := by
  obtain ⟨f, si, M, G, im⟩ := F.ex
  refine ⟨fun pins s σ H Q I h => wpAny_Call_Name_kw (ld_glob I hg F.gl ?_ hdb)⟩
  exact PySem.W.callWith_K (h₀ := X.base) I.ok.mod.kin M.kp (thn (ha.run pos pins s σ H _ I h) fun us s1 ⟨vs, H1, I1, r, q⟩ => ⟨I1.kIn, StX.run_makeR M G hr hx I1 r (im vs H1 Q E q)⟩) he hpl
end
theorem and255 {x : Int} (h : 0 ≤ x) : Builtin.bitAnd x 255 = x % 256 := bitAnd_mask 8 h
theorem and65535 {x : Int} (h : 0 ≤ x) : Builtin.bitAnd x 65535 = x % 65536 := bitAnd_mask 16 h
theorem log_small {i : Int} (h0 : 0 ≤ i) (h1 : i < 2 ^ 200) : i.natAbs.log2 < 1920 := by
  by_cases z : i.natAbs = 0
  · rw [z]; decide
  · refine (Nat.log2_lt z).mpr (Nat.lt_of_lt_of_le (m := 2 ^ 200) ?_ (Nat.pow_le_pow_right (by decide) (by decide)))
    have e : (i.natAbs : Int) = i := by omega
    have e2 : ((2 ^ 200 : Nat) : Int) = 2 ^ 200 := by decide +kernel
    omega
theorem max_min8 (n : Int) (h : 0 ≤ n) (b : Int) (hb : 1 ≤ b) : ∃ N : Int, (if (if n < b then n else b) > 1 then (if n < b then n else b) else 1) = N ∧ 1 ≤ N ∧ N ≤ b := ⟨_, rfl, by split <;> split <;> omega, by split <;> split <;> omega⟩
/-- an object that is no list stays where a source changes -/
theorem But.keep {a : Addr} {H H' : Hp} {p : Addr} {o : HO} (e : But a H H') (S : Srcs H a) (h : H p = some o) (no : ∀ xs, o ≠ .lst xs) : H' p = some o := e p o h (S.neO h no)
theorem but_same {H H1 H2 : Hp} {p : Addr} (e : Same H H1) (B : But p H1 H2) (np : H p = none) : Same H H2 := fun c o h => B c o (e c o h) (fun z => by rw [z, np] at h; cases h)
end An
namespace An
open PySem PySem.W PySem.Spec PyProof.Rows L2 TL Bits
theorem cmul_l {i j : Int} (h : -18446744073709551616 < i ∧ i < 18446744073709551616) : CMul i j := Or.inl h
theorem cmul_r {i j : Int} (h : -18446744073709551616 < j ∧ j < 18446744073709551616) : CMul i j := Or.inr h
theorem cdivw {i j : Int} (h : 0 < j) (h2 : j < 2 ^ 200) : CDivW i j := by
  refine wide_div h (b := 200) ?_ (by decide) (by decide)
  have e : (j.natAbs : Int) = j := by omega
  have e2 : ((2 ^ 200 : Nat) : Int) = 2 ^ 200 := by decide +kernel
  omega
theorem cshl {i j : Int} (h0 : 0 ≤ j) (h1 : j ≤ 100000) (hi : i.natAbs < 2 ^ 1000) : CShl i j := by
  obtain ⟨n, rfl⟩ := Int.eq_ofNat_of_zero_le h0
  exact shl_ok (n := 1000) hi (by omega)
theorem p1000 : (1 : Int).natAbs < 2 ^ 1000 := by decide +kernel
theorem cpow10 : CPow 10 18 := ⟨by decide, by decide, by decide⟩
end An
-- the sides of an operation
local macro_rules | `(tactic| walk_at "side") => `(tactic| first
  | with_reducible exact An.cpow10
  | (with_reducible refine An.cdivw ?_ ?_) <;> omega
  | (with_reducible refine An.cshl ?_ ?_ An.p1000) <;> omega
  | (with_reducible refine An.cmul_l ?_; omega)
  | (with_reducible refine An.cmul_r ?_; omega)
  | (show (0 : Int) < _; omega)
  | (show (0 : Int) ≤ _; omega))
-- one step of a reading
local macro_rules | `(tactic| walk_at "rd1") => `(tactic| first
  | refine ⟨_, rfl, ?_⟩
  | refine ⟨_, _, rfl, rfl, (by walk_at "side"), ?_⟩
  | refine ⟨_, _, rfl, rfl, ?_⟩
  | refine Or.inl ⟨_, rfl, ?_⟩
  | refine ⟨(rfl : _ = _), ?_⟩)
local macro_rules | `(tactic| walk_at "rd") => `(tactic| repeat walk_at "rd1")
-- what stood stands: along the heaps that the context names
local macro_rules | `(tactic| walk_at "same") => `(tactic| first
  | assumption
  | exact L2.Same.refl _
  | (refine An.same_new ?_ (by assumption)) <;> walk_at "same"
  | (refine L2.Same.trans ?_ (by assumption)) <;> walk_at "same")
namespace An
open PySem PySem.W PySem.Spec PyProof.Rows L2 TL Bits
def top (i : Nat) : Stmt := PySem.Challenge.pw_addressnets_k01_version_4_texts.main.body.getD i (.Pass ⟨0, 0, 0, 0⟩)
structure Tx (K : Frag) (mg : Str → Option Value) : Prop where
  d__law_mix : FnS K "_law_mix" "_law_mix" (top 35) (He.ga K "_law_mix")
  kp__law_mix : keepIn K (.ref (He.ga K "_law_mix")) = true
  g__law_mix : mg "_law_mix" = some (.ref (He.ga K "_law_mix"))
  f_int : mg "int" = none
  d__law_source : FnS K "_law_source" "_law_source" (top 36) (He.ga K "_law_source")
  kp__law_source : keepIn K (.ref (He.ga K "_law_source")) = true
  g__law_source : mg "_law_source" = some (.ref (He.ga K "_law_source"))
  f_len : mg "len" = none
  d__law_draw : FnS K "_law_draw" "_law_draw" (top 37) (He.ga K "_law_draw")
  kp__law_draw : keepIn K (.ref (He.ga K "_law_draw")) = true
  g__law_draw : mg "_law_draw" = some (.ref (He.ga K "_law_draw"))
  d__law_number : FnS K "_law_number" "_law_number" (top 38) (He.ga K "_law_number")
  kp__law_number : keepIn K (.ref (He.ga K "_law_number")) = true
  g__law_number : mg "_law_number" = some (.ref (He.ga K "_law_number"))
  f_min : mg "min" = none
  f_range : mg "range" = none
  d_part_fault : FnS K "part_fault" "part_fault" (top 10) (He.ga K "part_fault")
  kp_part_fault : keepIn K (.ref (He.ga K "part_fault")) = true
  g_part_fault : mg "part_fault" = some (.ref (He.ga K "part_fault"))
  f_all : mg "all" = none
  s_DIGITS : ∃ t, mg "DIGITS" = some (.str "0123456789" t)
  d_quad_fault : FnS K "quad_fault" "quad_fault" (top 11) (He.ga K "quad_fault")
  kp_quad_fault : keepIn K (.ref (He.ga K "quad_fault")) = true
  g_quad_fault : mg "quad_fault" = some (.ref (He.ga K "quad_fault"))
  d_read_quad : FnS K "read_quad" "read_quad" (top 12) (He.ga K "read_quad")
  kp_read_quad : keepIn K (.ref (He.ga K "read_quad")) = true
  g_read_quad : mg "read_quad" = some (.ref (He.ga K "read_quad"))
  d_quad_parts : FnS K "quad_parts" "quad_parts" (top 13) (He.ga K "quad_parts")
  kp_quad_parts : keepIn K (.ref (He.ga K "quad_parts")) = true
  g_quad_parts : mg "quad_parts" = some (.ref (He.ga K "quad_parts"))
  d_quad_text : FnS K "quad_text" "quad_text" (top 14) (He.ga K "quad_text")
  kp_quad_text : keepIn K (.ref (He.ga K "quad_text")) = true
  g_quad_text : mg "quad_text" = some (.ref (He.ga K "quad_text"))
  d_is_integer : FnS K "is_integer" "is_integer" (top 29) (He.ga K "is_integer")
  kp_is_integer : keepIn K (.ref (He.ga K "is_integer")) = true
  g_is_integer : mg "is_integer" = some (.ref (He.ga K "is_integer"))
  f_isinstance : mg "isinstance" = none
  f_bool : mg "bool" = none
  d_is_from : FnS K "is_from" "is_from" (top 30) (He.ga K "is_from")
  kp_is_from : keepIn K (.ref (He.ga K "is_from")) = true
  g_is_from : mg "is_from" = some (.ref (He.ga K "is_from"))
  d_number_of : FnS K "number_of" "number_of" (top 32) (He.ga K "number_of")
  kp_number_of : keepIn K (.ref (He.ga K "number_of")) = true
  g_number_of : mg "number_of" = some (.ref (He.ga K "number_of"))
  f_str : mg "str" = none
  i_WIDTH4 : ∃ t, mg "WIDTH4" = some (.int 32 t)
  dm_Address4____init__ : FnS K "__init__" "Address4.__init__" (inClass (top 33) 2) (He.ma K (He.ga K "Address4") "__init__")
  g_Address4 : mg "Address4" = some (.ref (He.ga K "Address4"))
  ki_int_Address4 : kitOne K (.type "int") (.ref (He.ga K "Address4")) = some false
  c_Address4 : Cls K (He.ga K "Address4")
  na_Address4__number : NoAttr K (He.ga K "Address4") "number"
  ki_str_Address4 : kitOne K (.type "str") (.ref (He.ga K "Address4")) = some false
  ty_Address4 : TyI K (He.ga K "Address4")
  ki_Address4_Address4 : kitOne K (.ref (He.ga K "Address4")) (.ref (He.ga K "Address4")) = some true
  mk_Address4 : Mk K (He.ga K "Address4") (He.ma K (He.ga K "Address4") "__init__")
  dm_Address4__full : FnS K "full" "Address4.full" (inClass (top 33) 6) (wfA K "Address4" "property" "full")
  dm_Address4____str__ : FnS K "__str__" "Address4.__str__" (inClass (top 33) 12) (He.ma K (He.ga K "Address4") "__str__")
  d__law_quad : FnS K "_law_quad" "_law_quad" (top 39) (He.ga K "_law_quad")
  kp__law_quad : keepIn K (.ref (He.ga K "_law_quad")) = true
  g__law_quad : mg "_law_quad" = some (.ref (He.ga K "_law_quad"))
  d_law : FnS K "law" "law" (top 40) (He.ga K "law")
  g_law : mg "law" = some (.ref (He.ga K "law"))
  f_max : mg "max" = none
  m_Address4____str__ : Meth K (He.ga K "Address4") "__str__" (He.ma K (He.ga K "Address4") "__str__")
  p_Address4__full : PropOf K (He.ga K "Address4") "full" (He.ma K (He.ga K "Address4") "full") (wfA K "Address4" "property" "full")
section
variable {P : Program} {w : World} {K : Frag} {mg : Str → Option Value} {base : Heap}
abbrev s__law_mix : Stmt := (top 35)
abbrev N__law_mix : List Str := [("_law_cell" : Str), ("_law_step" : Str), ("_law_blend" : Str)]
theorem sc__law_mix : FnScope N__law_mix [("_law_cell" : Str), ("_law_step" : Str)] (defScope s__law_mix) := ⟨rfl, rfl, rfl, by decide +kernel, rfl, by decide +kernel, by decide +kernel⟩
def sp__law_mix (K : Frag) : Sp := fun vs H Q E => ∃ c t : Int, vs = [.int c, .int t] ∧ ∀ r : Int, 0 ≤ r → r < 2147483563 → Q (.int r) H
theorem ok__law_mix (T : Tx K mg) : FnG P w K mg base 1 "_law_mix" (sp__law_mix K) := by
  refine ⟨fnr T.d__law_mix sc__law_mix (fun vs H Q E h => by obtain ⟨c, t, rfl, k⟩ := h; rfl) (fun _ _ _ _ _ _ us hl => match us, hl with | [_, _], _ => rfl) (fun cdv A outer s H vs Q E hr h => ?_), T.kp__law_mix, T.g__law_mix⟩
  have nd := sc__law_mix.nd
  have hu := hu_of hr
  obtain ⟨c, t, rfl, k⟩ := h
  refine ⟨_, PSs.nox (pss_cons (ps_set (i := 2) nd rfl (Or.inl rfl) (pe_op op_add (pe_op op_add (pe_op op_add (pe_op op_mod (pe_callTy call_int1 (by rfl) T.f_int (by decide +kernel) (pa_cons (pv 0) pa_nil)) pe_int) (pe_op op_mul pe_int (pv 1))) (pe_op op_mod (pe_callTy call_int1 (by rfl) T.f_int (by decide +kernel) (pa_cons (pe_op op_fdivW (pv 0) pe_int) pa_nil)) pe_int)) pe_int))
        (pss_cons (ps_set (i := 2) nd rfl (Or.inl rfl) (pe_op op_mod (pe_callTy call_int1 (by rfl) T.f_int (by decide +kernel) (pa_cons (pe_op op_mul (pv 2) pe_int) pa_nil)) pe_int))
        (pss_cons (ps_set (i := 2) nd rfl (Or.inl rfl) (pe_op op_mod (pe_callTy call_int1 (by rfl) T.f_int (by decide +kernel) (pa_cons (pe_op op_mul (pv 2) (pe_op op_add (pe_op op_add (pe_op op_fdivW (pv 2) pe_int) pe_int) (pv 1))) pa_nil)) pe_int))
        (pss_one (ps_ret (pe_op op_mod (pe_callTy call_int1 (by rfl) T.f_int (by decide +kernel) (pa_cons (pe_op op_mul (pv 2) (pe_op op_add (pe_op op_fdivW (pv 2) pe_int) pe_int)) pa_nil)) pe_int)))))), ?_⟩
  walk_at "rd"
  exact k _ (Int.emod_nonneg _ (by decide)) (Int.emod_lt_of_pos _ (by decide))
abbrev s__law_source : Stmt := (top 36)
abbrev N__law_source : List Str := [("_law_script" : Str), ("_law_k" : Str), ("_law_cell" : Str)]
theorem sc__law_source : FnScope N__law_source [("_law_script" : Str), ("_law_k" : Str)] (defScope s__law_source) := ⟨rfl, rfl, rfl, by decide +kernel, rfl, by decide +kernel, by decide +kernel⟩
def sp__law_source (K : Frag) : Sp := fun vs H Q E => ∃ (a : Addr) (ns : List Int) (k : Int), vs = [.ref a, .int k] ∧ SqL K H a (ns.map V.int) ∧ ns.length ≤ 63 ∧ 0 ≤ k ∧ k ≤ 63 ∧ ∀ (p : Addr) (H' : Hp) (x y : Int), Same H H' → H p = none → H' p = some (.lst [.int x, .int y, .int 0]) → Q (.ref p) H'
theorem ok__law_source (T : Tx K mg) : FnG P w K mg base 1 "_law_source" (sp__law_source K) := by
  refine ⟨fnr T.d__law_source sc__law_source (fun vs H Q E h => by obtain ⟨a, ns, k, rfl, hS, hl, h0, h1, q⟩ := h; rfl) (fun _ _ _ _ _ _ us hl => match us, hl with | [_, _], _ => rfl) (fun cdv A outer s H vs Q E hr h => ?_), T.kp__law_source, T.g__law_source⟩
  have nd := sc__law_source.nd
  have hu := hu_of hr
  obtain ⟨a, ns, k, rfl, hS, hl, h0, h1, q⟩ := h
  refine ⟨_, PSs.nox (pss_cons (ps_set (i := 2) nd rfl (Or.inl rfl) (pe_op op_add (pe_ix ix_list (pe_op op_catL (pv 0) (pe_lst (pa_cons pe_int pa_nil))) pe_int (fun _ _ => rfl)) (pe_op op_mul pe_int (pv 1))))
        (pss_cons (ps_if (pt_cmpR op_lt (pv 1) (pe_callB call_len_seq (by rfl) T.f_len (by decide +kernel) (pa_cons (pv 0) pa_nil)) (nomark _)) (pss_one (ps_set (i := 2) nd rfl (Or.inl rfl) (pe_ix ix_list (pv 0) (pv 1) (fun _ _ => rfl))))
        pss_nil)
        (pss_one (ps_ret (pe_lst (pa_cons (pv 2) (pa_cons (pv 2) (pa_cons pe_int pa_nil)))))))), ?_⟩
  walk_at "rd"
  refine ⟨lz, fun p1 np1 => ?_⟩
  have s1 : Same H (upd H p1 (.lst [V.int 0])) := same_new (Same.refl H) np1
  refine ⟨_, _, _, _, rfl, rfl, s1.seq hS, SqL.of upd_same, ?_, fun p2 np2 => ?_⟩
  · rw [List.length_map]; show ns.length + 1 ≤ sizeLine; exact Nat.le_trans (Nat.succ_le_succ hl) (by decide)
  have s2 : Same H (upd (upd H p1 (.lst [V.int 0])) p2 (.lst (ns.map V.int ++ [V.int 0]))) := same_new s1 np2
  obtain ⟨c0, hc0⟩ : ∃ c0, (ns.map V.int ++ [V.int 0])[0]? = some (V.int c0) := by
    cases ns with
    | nil => exact ⟨0, rfl⟩
    | cons n r => exact ⟨n, rfl⟩
  refine ⟨_, _, _, _, rfl, rfl, SqL.of upd_same, atI_nat (j := 0) hc0, ?_⟩
  walk_at "rd"
  refine ⟨_, _, rfl, Or.inl (s2.seq hS), ?_⟩
  walk_at "rd"
  refine ite2 (fun hk => ?_) (fun hk => ?_)
  · have hk2 : k < (ns.map V.int).length := of_decide_eq_true hk
    rw [List.length_map] at hk2
    have hlt : k.toNat < ns.length := by omega
    have e1 : (ns.map V.int)[k.toNat]? = some (V.int ns[k.toNat]) := by rw [List.getElem?_map, List.getElem?_eq_getElem hlt]; rfl
    have e2 : atI (ns.map V.int) k = some (V.int ns[k.toNat]) := by
      have := atI_nat e1
      rwa [Int.toNat_of_nonneg h0] at this
    walk_at "rd"
    refine ⟨_, _, _, _, rfl, rfl, s2.seq hS, e2, ?_⟩
    walk_at "rd"
    refine ⟨lz, fun p3 np3 => ?_⟩
    exact q p3 _ _ _ (same_new s2 np3) (s2.free np3) upd_same
  · walk_at "rd"
    refine ⟨lz, fun p3 np3 => ?_⟩
    exact q p3 _ _ _ (same_new s2 np3) (s2.free np3) upd_same
abbrev s__law_draw : Stmt := (top 37)
abbrev N__law_draw : List Str := [("_law_source_here" : Str), ("_law_many" : Str), ("_law_found" : Str)]
theorem sc__law_draw : FnScope N__law_draw [("_law_source_here" : Str), ("_law_many" : Str)] (defScope s__law_draw) := ⟨rfl, rfl, rfl, by decide +kernel, rfl, by decide +kernel, by decide +kernel⟩
def sp__law_draw (K : Frag) : Sp := fun vs H Q E => ∃ (a : Addr) (m : Int), vs = [.ref a, .int m] ∧ Srcs H a ∧ 0 < m ∧ m < 2 ^ 200 ∧ ∀ (r : Int) (H' : Hp), 0 ≤ r → r < m → Srcs H' a → But a H H' → Q (.int r) H'
theorem ok__law_draw (T : Tx K mg) : FnG P w K mg base 2 "_law_draw" (sp__law_draw K) := by
  have F__law_mix := ok__law_mix (P := P) (w := w) (base := base) T
  refine ⟨fnr T.d__law_draw sc__law_draw (fun vs H Q E h => by obtain ⟨a, m, rfl, ⟨x, y, z, hS⟩, h0, h1, q⟩ := h; rfl) (fun _ _ _ _ _ _ us hl => match us, hl with | [_, _], _ => rfl) (fun cdv A outer s H vs Q E hr h => ?_), T.kp__law_draw, T.g__law_draw⟩
  have nd := sc__law_draw.nd
  have hu := hu_of hr
  obtain ⟨a, m, rfl, ⟨x, y, z, hS⟩, h0, h1, q⟩ := h
  refine ⟨_, PSs.nox (pss_cons (ps_if (pt_cmpR op_ge (pe_ix ix_list (pv 0) pe_int (fun _ _ => rfl)) (pe_op op_pow pe_int pe_int) (nomark _)) (pss_cons (ps_set (i := 2) nd rfl (Or.inl rfl) (pe_op op_mod (pe_callTy call_int1 (by rfl) T.f_int (by decide +kernel) (pa_cons (pe_ix ix_list (pv 0) pe_int (fun _ _ => rfl)) pa_nil)) (pv 1)))
        (pss_cons (ps_asg (pe_op op_fdivW (pe_ix ix_list (pv 0) pe_int (fun _ _ => rfl)) (pv 1)) (pg_sub (pv 0) pe_int set_list))
        (pss_one (ps_ret (pv 2)))))
        pss_nil)
        (pss_cons (ps_asg (pe_op op_add (pe_ix ix_list (pv 0) pe_int (fun _ _ => rfl)) pe_int) (pg_sub (pv 0) pe_int set_list))
        (pss_one (ps_ret (pe_op op_mod (pe_callTy call_int1 (by rfl) T.f_int (by decide +kernel) (pa_cons (pe_f F__law_mix (hr.mono (by decide)) passL (pa_cons (pe_ix ix_list (pv 0) pe_int (fun _ _ => rfl)) (pa_cons (pe_ix ix_list (pv 0) pe_int (fun _ _ => rfl)) pa_nil))) pa_nil)) (pv 1)))))), ?_⟩
  walk_at "rd"
  refine ⟨_, _, _, _, rfl, rfl, SqL.of hS, atI_nat (j := 0) rfl, ?_⟩
  walk_at "rd"
  refine ite2 (fun _ => ?_) (fun _ => ?_)
  · walk_at "rd"
    refine ⟨_, _, _, _, rfl, rfl, SqL.of hS, atI_nat (j := 0) rfl, ?_⟩
    walk_at "rd"
    refine ⟨_, _, _, _, rfl, rfl, SqL.of hS, atI_nat (j := 0) rfl, ?_⟩
    walk_at "rd"
    refine ⟨_, _, _, 0, rfl, rfl, hS, rfl, ?_⟩
    walk_at "rd"
    exact q _ _ (Int.emod_nonneg _ (by omega)) (Int.emod_lt_of_pos _ h0) ⟨_, _, _, upd_same⟩ (But.refl a H).upd
  · walk_at "rd"
    refine ⟨_, _, _, _, rfl, rfl, SqL.of hS, atI_nat (j := 2) rfl, ?_⟩
    walk_at "rd"
    refine ⟨_, _, _, 2, rfl, rfl, hS, rfl, ?_⟩
    walk_at "rd"
    refine ⟨_, _, _, _, rfl, rfl, SqL.of upd_same, atI_nat (j := 1) rfl, ?_⟩
    walk_at "rd"
    refine ⟨_, _, _, _, rfl, rfl, SqL.of upd_same, atI_nat (j := 2) rfl, ?_⟩
    walk_at "rd"
    refine ⟨_, _, rfl, fun r hr0 hr1 => ?_⟩
    walk_at "rd"
    exact q _ _ (Int.emod_nonneg _ (by omega)) (Int.emod_lt_of_pos _ h0) ⟨_, _, _, upd_same⟩ (But.refl a H).upd
abbrev s__law_number : Stmt := (top 38)
abbrev N__law_number : List Str := [("_law_source_here" : Str), ("_law_bits" : Str), ("_law_top" : Str), ("_law_way" : Str), ("_law_step" : Str), ("_law_found" : Str), ("_law_k" : Str), ("_law_some" : Str)]
theorem sc__law_number : FnScope N__law_number [("_law_source_here" : Str), ("_law_bits" : Str)] (defScope s__law_number) := ⟨rfl, rfl, rfl, by decide +kernel, rfl, by decide +kernel, by decide +kernel⟩
def sp__law_number (K : Frag) : Sp := fun vs H Q E => ∃ (a : Addr) (b : Int), vs = [.ref a, .int b] ∧ (b = 32 ∨ b = 128) ∧ Srcs H a ∧ ∀ (n : Int) (H' : Hp), 0 ≤ n → n < 2 ^ b.toNat → Srcs H' a → But a H H' → Q (.int n) H'
theorem ok__law_number (T : Tx K mg) : FnG P w K mg base 3 "_law_number" (sp__law_number K) := by
  have F__law_draw := ok__law_draw (P := P) (w := w) (base := base) T
  refine ⟨fnr T.d__law_number sc__law_number (fun vs H Q E h => by obtain ⟨a, b, rfl, hb, hS, q⟩ := h; rfl) (fun _ _ _ _ _ _ us hl => match us, hl with | [_, _], _ => rfl) (fun cdv A outer s H vs Q E hr h => ?_), T.kp__law_number, T.g__law_number⟩
  have nd := sc__law_number.nd
  have hu := hu_of hr
  obtain ⟨a, b, rfl, hb, hS, q⟩ := h
  refine ⟨_, PSs.nox (pss_cons (ps_set (i := 2) nd rfl (Or.inl rfl) (pe_op op_sub (pe_op op_shlW pe_int (pv 1)) pe_int))
        (pss_cons (ps_set (i := 3) nd rfl (Or.inl rfl) (pe_f F__law_draw (hr.mono (by decide)) passL (pa_cons (pv 0) (pa_cons pe_int pa_nil))))
        (pss_cons (ps_if (pt_cmpR op_eq (pv 3) pe_int (nomark _)) (pss_one (ps_ret (pe_ix ix_list (pe_lst (pa_cons pe_int (pa_cons pe_int (pa_cons (pv 2) (pa_cons (pe_op op_sub (pv 2) pe_int) pa_nil))))) (pe_f F__law_draw (hr.mono (by decide)) passL (pa_cons (pv 0) (pa_cons pe_int pa_nil))) (fun _ _ => rfl))))
        pss_nil)
        (pss_cons (ps_if (pt_cmpR op_eq (pv 3) pe_int (nomark _)) (pss_one (ps_ret (pe_callB (call_min2 rfl) (by rfl) T.f_min (by decide +kernel) (pa_cons (pv 2) (pa_cons (pe_op op_sub (pe_op op_add (pe_op op_shlW pe_int (pe_f F__law_draw (hr.mono (by decide)) passL (pa_cons (pv 0) (pa_cons (pe_op op_add (pv 1) pe_int) pa_nil)))) (pe_f F__law_draw (hr.mono (by decide)) passL (pa_cons (pv 0) (pa_cons pe_int pa_nil)))) pe_int) pa_nil)))))
        pss_nil)
        (pss_cons (ps_set (i := 4) nd rfl (Or.inl rfl) (pe_ix ix_list (pe_lst (pa_cons pe_int (pa_cons pe_int pa_nil))) (pe_callTy call_int1 (by rfl) T.f_int (by decide +kernel) (pa_cons (pe_cmpR op_eq (pv 1) pe_int (nomark _)) pa_nil)) (fun _ _ => rfl)))
        (pss_cons (ps_set (i := 5) nd rfl (Or.inl rfl) pe_int)
        (pss_cons (ps_for PassesOwn.never rfl (pi_range1 (by rfl) T.f_range (pa_cons (pe_op op_fdivW (pv 1) (pv 4)) pa_nil)) (pg_name (i := 6) nd rfl (Or.inl rfl))
        (pss_cons (ps_set (i := 7) nd rfl (Or.inl rfl) (pe_lst (pa_cons pe_int (pa_cons pe_int (pa_cons pe_int (pa_cons pe_int (pa_cons (pe_op op_sub (pe_op op_shlW pe_int (pv 4)) pe_int) (pa_cons (pe_f F__law_draw (hr.mono (by decide)) passL (pa_cons (pv 0) (pa_cons (pe_op op_shlW pe_int (pv 4)) pa_nil))) pa_nil))))))))
        (pss_one (ps_set (i := 5) nd rfl (Or.inl rfl) (pe_op op_add (pe_op op_mul (pv 5) (pe_op op_shlW pe_int (pv 4))) (pe_ix ix_list (pv 7) (pe_f F__law_draw (hr.mono (by decide)) passL (pa_cons (pv 0) (pa_cons pe_int pa_nil))) (fun _ _ => rfl)))))))
        (pss_one (ps_ret (pv 5)))))))))), ?_⟩
  have x32 := e32
  have x128 := e128
  have x8 := e8
  have x16 := e16
  rcases hb with rfl | rfl
  ·
    walk_at "rd"
    refine ⟨_, _, rfl, hS, by omega, by omega, fun r H1 r0 r1 S1 B1 => ?_⟩
    walk_at "rd"
    refine ite2 (fun _ => ?_) (fun _ => ?_)
    · walk_at "rd"
      refine ⟨lz, fun p np => ?_⟩
      walk_at "rd"
      refine ⟨_, _, rfl, S1.new np, by omega, by omega, fun r2 H2 r20 r21 S2 B2 => ?_⟩
      obtain ⟨v, e, i, rfl, i0, i1⟩ := pick (P := IntB 0 (2 ^ Int.toNat 32)) (xs := [V.int 0, V.int 1, V.int (1 * 2 ^ Int.toNat 32 - 1), V.int (1 * 2 ^ Int.toNat 32 - 1 - 1)]) r20 r21
        (fa_cons ⟨_, rfl, by omega, by omega⟩ (fa_cons ⟨_, rfl, by omega, by omega⟩ (fa_cons ⟨_, rfl, by omega, by omega⟩ (fa_cons ⟨_, rfl, by omega, by omega⟩ fa_nil))))
      refine ⟨_, _, _, _, rfl, rfl, SqL.of (B2 p _ upd_same (S1.ne np)), e, ?_⟩
      exact q _ _ i0 i1 S2 ((B1.new np).trans B2)
    · walk_at "rd"
      refine ite2 (fun _ => ?_) (fun _ => ?_)
      · walk_at "rd"
        refine ⟨_, _, rfl, S1, by omega, by omega, fun r2 H2 r20 r21 S2 B2 => ?_⟩
        walk_at "rd"
        refine ⟨_, _, rfl, S2, by omega, by omega, fun r3 H3 r30 r31 S3 B3 => ?_⟩
        walk_at "rd"
        refine ⟨_, _, rfl, ?_⟩
        have pp := pow_pos' r2.toNat
        refine q _ _ ?_ ?_ S3 ((B1.trans B2).trans B3)
        · split <;> omega
        · split <;> omega
      · walk_at "rd"
        refine ⟨lz, fun p np => ?_⟩
        walk_at "rd"
        refine Or.inr ⟨_, rfl, ?_⟩
        refine ⟨_, _, _, _, rfl, rfl, SqL.of upd_same, atI_nat (j := 0) rfl, ?_⟩
        walk_at "rd"
        refine ⟨by decide, by decide, for_range (n := 4) (fun i σ H2 => ∃ (f : Int) (v6 v7 : Option V), σ = [some (.ref a), some (.int 32), some (.int (1 * 2 ^ Int.toNat 32 - 1)), some (.int r), some (.int 8), some (.int f), v6, v7] ∧ 0 ≤ f ∧ f < (256 : Int) ^ i ∧ Srcs H2 a ∧ But a H H2)
          ⟨0, none, none, rfl, by decide, by decide, S1.new np, B1.new np⟩ ?_ ?_⟩
        · rintro i σ H2 hi ⟨f, v6, v7, rfl, f0, f1, S2, B2⟩
          walk_at "rd"
          refine ⟨_, _, rfl, S2, by omega, by omega, fun r2 H3 r20 r21 S3 B3 => ?_⟩
          walk_at "rd"
          refine ⟨lz, fun p2 np2 => ?_⟩
          walk_at "rd"
          refine ⟨_, _, rfl, S3.new np2, by omega, by omega, fun r3 H4 r30 r31 S4 B4 => ?_⟩
          obtain ⟨v, e, j, rfl, j0, j1⟩ := pick (P := IntB 0 256) (xs := [V.int 0, V.int 0, V.int 0, V.int 1, V.int (1 * 2 ^ Int.toNat 8 - 1), V.int r2]) r30 r31
            (fa_cons ⟨_, rfl, by omega, by omega⟩ (fa_cons ⟨_, rfl, by omega, by omega⟩ (fa_cons ⟨_, rfl, by omega, by omega⟩ (fa_cons ⟨_, rfl, by omega, by omega⟩ (fa_cons ⟨_, rfl, by omega, by omega⟩ (fa_cons ⟨_, rfl, by omega, by omega⟩ fa_nil))))))
          refine ⟨_, _, _, _, rfl, rfl, SqL.of (B4 p2 _ upd_same (S3.ne np2)), e, ?_⟩
          walk_at "rd"
          have d := dig_lt (B := 256) (by decide) f0 f1 j0 j1
          refine ⟨f * (1 * 2 ^ Int.toNat 8) + j, _, _, rfl, ?_, ?_, S4, (((B2.trans B3).new np2).trans B4)⟩
          · rw [Int.one_mul, e8]; exact d.1
          · rw [Int.one_mul, e8]; exact d.2
        · rintro σ H2 ⟨f, v6, v7, rfl, f0, f1, S2, B2⟩
          refine ⟨_, rfl, ?_⟩
          exact q _ _ f0 (by rw [e32]; exact f1) S2 B2
  ·
    walk_at "rd"
    refine ⟨_, _, rfl, hS, by omega, by omega, fun r H1 r0 r1 S1 B1 => ?_⟩
    walk_at "rd"
    refine ite2 (fun _ => ?_) (fun _ => ?_)
    · walk_at "rd"
      refine ⟨lz, fun p np => ?_⟩
      walk_at "rd"
      refine ⟨_, _, rfl, S1.new np, by omega, by omega, fun r2 H2 r20 r21 S2 B2 => ?_⟩
      obtain ⟨v, e, i, rfl, i0, i1⟩ := pick (P := IntB 0 (2 ^ Int.toNat 128)) (xs := [V.int 0, V.int 1, V.int (1 * 2 ^ Int.toNat 128 - 1), V.int (1 * 2 ^ Int.toNat 128 - 1 - 1)]) r20 r21
        (fa_cons ⟨_, rfl, by omega, by omega⟩ (fa_cons ⟨_, rfl, by omega, by omega⟩ (fa_cons ⟨_, rfl, by omega, by omega⟩ (fa_cons ⟨_, rfl, by omega, by omega⟩ fa_nil))))
      refine ⟨_, _, _, _, rfl, rfl, SqL.of (B2 p _ upd_same (S1.ne np)), e, ?_⟩
      exact q _ _ i0 i1 S2 ((B1.new np).trans B2)
    · walk_at "rd"
      refine ite2 (fun _ => ?_) (fun _ => ?_)
      · walk_at "rd"
        refine ⟨_, _, rfl, S1, by omega, by omega, fun r2 H2 r20 r21 S2 B2 => ?_⟩
        walk_at "rd"
        refine ⟨_, _, rfl, S2, by omega, by omega, fun r3 H3 r30 r31 S3 B3 => ?_⟩
        walk_at "rd"
        refine ⟨_, _, rfl, ?_⟩
        have pp := pow_pos' r2.toNat
        refine q _ _ ?_ ?_ S3 ((B1.trans B2).trans B3)
        · split <;> omega
        · split <;> omega
      · walk_at "rd"
        refine ⟨lz, fun p np => ?_⟩
        walk_at "rd"
        refine Or.inr ⟨_, rfl, ?_⟩
        refine ⟨_, _, _, _, rfl, rfl, SqL.of upd_same, atI_nat (j := 1) rfl, ?_⟩
        walk_at "rd"
        refine ⟨by decide, by decide, for_range (n := 8) (fun i σ H2 => ∃ (f : Int) (v6 v7 : Option V), σ = [some (.ref a), some (.int 128), some (.int (1 * 2 ^ Int.toNat 128 - 1)), some (.int r), some (.int 16), some (.int f), v6, v7] ∧ 0 ≤ f ∧ f < (65536 : Int) ^ i ∧ Srcs H2 a ∧ But a H H2)
          ⟨0, none, none, rfl, by decide, by decide, S1.new np, B1.new np⟩ ?_ ?_⟩
        · rintro i σ H2 hi ⟨f, v6, v7, rfl, f0, f1, S2, B2⟩
          walk_at "rd"
          refine ⟨_, _, rfl, S2, by omega, by omega, fun r2 H3 r20 r21 S3 B3 => ?_⟩
          walk_at "rd"
          refine ⟨lz, fun p2 np2 => ?_⟩
          walk_at "rd"
          refine ⟨_, _, rfl, S3.new np2, by omega, by omega, fun r3 H4 r30 r31 S4 B4 => ?_⟩
          obtain ⟨v, e, j, rfl, j0, j1⟩ := pick (P := IntB 0 65536) (xs := [V.int 0, V.int 0, V.int 0, V.int 1, V.int (1 * 2 ^ Int.toNat 16 - 1), V.int r2]) r30 r31
            (fa_cons ⟨_, rfl, by omega, by omega⟩ (fa_cons ⟨_, rfl, by omega, by omega⟩ (fa_cons ⟨_, rfl, by omega, by omega⟩ (fa_cons ⟨_, rfl, by omega, by omega⟩ (fa_cons ⟨_, rfl, by omega, by omega⟩ (fa_cons ⟨_, rfl, by omega, by omega⟩ fa_nil))))))
          refine ⟨_, _, _, _, rfl, rfl, SqL.of (B4 p2 _ upd_same (S3.ne np2)), e, ?_⟩
          walk_at "rd"
          have d := dig_lt (B := 65536) (by decide) f0 f1 j0 j1
          refine ⟨f * (1 * 2 ^ Int.toNat 16) + j, _, _, rfl, ?_, ?_, S4, (((B2.trans B3).new np2).trans B4)⟩
          · rw [Int.one_mul, e16]; exact d.1
          · rw [Int.one_mul, e16]; exact d.2
        · rintro σ H2 ⟨f, v6, v7, rfl, f0, f1, S2, B2⟩
          refine ⟨_, rfl, ?_⟩
          exact q _ _ f0 (by rw [e128]; exact f1) S2 B2
def digS : Str := "0123456789"
def isDg (c : Nat) : Bool := decide (c ∈ digS.cps.toList)
def partFault (l : List Nat) : Option Str :=
  if l = [] then some ("empty" : Str) else if (l.all isDg) = false then some ("digits" : Str) else if 3 < l.length then some ("long" : Str) else if l.head? = some 48 ∧ l ≠ [48] then some ("zero" : Str)
  else if 255 < NumText.digitsVal l then some ("large" : Str) else none
def optV : Option Str → V
  | none => .non
  | some x => .str x
def firstFault : List (List Nat) → Option Str
  | [] => none
  | p :: r => match partFault p with
    | some w => some w
    | none => firstFault r
/-- cut at every s -/
def sp1 (s : Nat) : List Nat → List Nat → List (List Nat)
  | acc, [] => [acc]
  | acc, c :: r => if c = s then acc :: sp1 s [] r else sp1 s (acc ++ [c]) r
theorem sp1_spl (s : Nat) : ∀ (l acc : List Nat), spl [s] 0 acc l = sp1 s acc l
  | [], acc => spl_nil _ _ _
  | c :: r, acc => by
    by_cases h : c = s
    · subst h
      rw [spl_hit (by unfold pre; simp), show ([c] : List Nat).length - 1 = 0 from rfl, sp1_spl c r []]
      show _ = if c = c then acc :: sp1 c [] r else _
      rw [if_pos rfl]
    · rw [spl_miss (pre_of_head [] r h), sp1_spl s r]
      show _ = if c = s then _ else sp1 s (acc ++ [c]) r
      rw [if_neg h]
theorem sp1_len {s : Nat} : ∀ (l acc p : List Nat), p ∈ sp1 s acc l → p.length ≤ acc.length + l.length
  | [], acc, p, h => by
    have e : p = acc := List.mem_singleton.mp h
    rw [e]; simp
  | c :: r, acc, p, h => by
    unfold sp1 at h
    split at h
    · rcases List.mem_cons.mp h with e | h
      · rw [e]; simp
      · have := sp1_len r [] p h
        simp at this ⊢; omega
    · have := sp1_len r _ p h
      simp at this ⊢; omega
theorem sp1_many {s : Nat} : ∀ (l acc : List Nat), (sp1 s acc l).length ≤ l.length + 1
  | [], acc => by unfold sp1; simp
  | c :: r, acc => by
    unfold sp1
    split
    · have := sp1_many (s := s) r []
      simp; omega
    · have := sp1_many (s := s) r (acc ++ [c])
      simp; omega
def dots (t : List Nat) : List (List Nat) := sp1 46 [] t
theorem split_dots (z : Str) : (Txt.split z ("." : Str)).map tl = dots (tl z) := by
  have e : tl ("." : Str) = [46] := by decide +kernel
  rw [split_spl z ("." : Str) (by rw [e]; simp) (kind_ok (by decide +kernel)), e, sp1_spl]; rfl
theorem fault_none {l : List Nat} (h : partFault l = none) : l ≠ [] ∧ l.all isDg = true ∧ l.length ≤ 3 ∧ ¬ (l.head? = some 48 ∧ l ≠ [48]) ∧ NumText.digitsVal l ≤ 255 := by
  unfold partFault at h
  split at h
  · cases h
  split at h
  · cases h
  split at h
  · cases h
  split at h
  · cases h
  split at h
  · cases h
  rename_i h1 h2 h3 h4 h5
  exact ⟨h1, by simpa using h2, by omega, h4, by omega⟩
def quadFault (t : List Nat) : Option Str := if (dots t).length = 4 then firstFault (dots t) else some ("parts" : Str)
def quadVal (ps : List (List Nat)) : Nat := ps.foldl (fun a p => a * 256 + NumText.digitsVal p) 0
theorem isDg_iff {c : Nat} : isDg c = true ↔ 48 ≤ c ∧ c ≤ 57 := by
  have e : digS.cps.toList = [48, 49, 50, 51, 52, 53, 54, 55, 56, 57] := by decide +kernel
  unfold isDg
  rw [decide_eq_true_iff, e]
  simp only [List.mem_cons, List.not_mem_nil, or_false]
  omega
theorem allDg {l : List Nat} (h : l.all isDg = true) : NumText.AllDigits l := fun c hc => isDg_iff.mp (List.all_eq_true.mp h c hc)
abbrev s_part_fault : Stmt := (top 10)
abbrev N_part_fault : List Str := [("part" : Str), ("sign" : Str)]
theorem sc_part_fault : FnScope N_part_fault [("part" : Str)] (defScope s_part_fault) := ⟨rfl, rfl, rfl, by decide +kernel, rfl, by decide +kernel, by decide +kernel⟩
def sp_part_fault (K : Frag) : Sp := fun vs H Q E => ∃ z : Str, vs = [.str z] ∧ z.length ≤ 100000 ∧ ∀ H', Same H H' → Q (optV (partFault (tl z))) H'
theorem ok_part_fault (T : Tx K mg) : FnG P w K mg base 1 "part_fault" (sp_part_fault K) := by
  refine ⟨fnr T.d_part_fault sc_part_fault (fun vs H Q E h => by obtain ⟨z, rfl, hz, q⟩ := h; rfl) (fun _ _ _ _ _ _ us hl => match us, hl with | [_], _ => rfl) (fun cdv A outer s H vs Q E hr h => ?_), T.kp_part_fault, T.g_part_fault⟩
  have nd := sc_part_fault.nd
  have hu := hu_of hr
  obtain ⟨z, rfl, hz, q⟩ := h
  refine ⟨_, PSs.nox (pss_cons (ps_if (pt_cmpR op_eq (pv 0) pe_str (nomark _)) (pss_one (ps_ret pe_str))
        pss_nil)
        (pss_cons (ps_if (pt_not (pt_val (pe_callB (cr_all rfl) (by rfl) T.f_all (by decide +kernel) (pa_cons (pe_lc (own := [("sign", 1)]) rfl nd (pi_str (pv 0)) (blkOk_by (own := [("sign", 1)]) (N := N_part_fault) (sc := defScope s_part_fault) (by decide +kernel)) (fun _ _ _ _ _ => (pg_name (i := 1) nd rfl (Or.inl rfl))) (fun _ _ _ _ _ => pts_nil) (fun _ _ _ _ _ => (pe_cmpR op_in_sign (pv 1) (pe_gs T.s_DIGITS) (by rfl)))) pa_nil)))) (pss_one (ps_ret pe_str))
        pss_nil)
        (pss_cons (ps_if (pt_cmpR op_gt (pe_callB call_len (by rfl) T.f_len (by decide +kernel) (pa_cons (pv 0) pa_nil)) pe_int (nomark _)) (pss_one (ps_ret pe_str))
        pss_nil)
        (pss_cons (ps_if (PW.pt (pw_and (pt_cmpR op_eq (pe_ix ix_str (pv 0) pe_int (fun _ _ => rfl)) pe_str (nomark _)) (pw_and1 (pt_cmpR op_ne (pv 0) pe_str (nomark _))))) (pss_one (ps_ret pe_str))
        pss_nil)
        (pss_one (ps_ret (pe_ifExp (pt_cmpR op_gt (pe_callTy call_int_str (by rfl) T.f_int (by decide +kernel) (pa_cons (pv 0) pa_nil)) pe_int (nomark _)) pe_str pe_non))))))), ?_⟩
  walk_at "rd"
  refine ite2 (fun h => ?_) (fun h => ?_)
  · have e : z = "" := by
      have := of_decide_eq_true h
      injection this
    have e2 : partFault (tl z) = some ("empty" : Str) := by rw [e]; rfl
    rw [e2] at q
    exact q H (Same.refl H)
  have hne : tl z ≠ [] := fun e => h (decide_eq_true (by rw [ext_tl (x := z) (y := "") (by rw [e]; rfl)]))
  walk_at "rd"
  intro D nD
  refine lc_mp (tl z) sgn (fun c => .bl (isDg c)) walk_str (size_tl z) (by rw [← len_tl]; exact Nat.lt_of_le_of_lt hz (by decide)) ystr nD (fun _ _ => trivial) ?_ ?_
  · intro c hc H1 s1 Qe k
    refine ⟨rfl, _, rfl, _, _, rfl, rfl, k H1 (Same.refl _)⟩
  intro H1 s1 h1
  refine ⟨D, (tl z).map isDg, rfl, ?_, ?_⟩
  · have e : ((tl z).map isDg).map V.bl = (tl z).map (fun c => V.bl (isDg c)) := by rw [List.map_map]; rfl
    rw [e]; exact SqL.of h1
  have ea : ((tl z).map isDg).all id = (tl z).all isDg := by rw [List.all_map]; rfl
  walk_at "rd"
  rw [ea]
  cases hd : (tl z).all isDg with
  | false =>
    refine iteT ?_
    have e2 : partFault (tl z) = some ("digits" : Str) := by unfold partFault; rw [if_neg hne, if_pos hd]
    rw [e2] at q
    exact q H1 s1
  | true =>
  refine iteF ?_
  walk_at "rd"
  refine ⟨_, z.length, rfl, ⟨Nat.le_trans hz (by decide), rfl⟩, ?_⟩
  walk_at "rd"
  have hlen := len_tl z
  refine ite2 (fun h3 => ?_) (fun h3 => ?_)
  · have h4 : (3 : Int) < z.length := of_decide_eq_true h3
    have e2 : partFault (tl z) = some ("long" : Str) := by unfold partFault; rw [if_neg hne, if_neg (by rw [hd]; simp), if_pos (by omega)]
    rw [e2] at q
    exact q H1 s1
  have h4 : ¬ (3 : Int) < z.length := fun w => h3 (decide_eq_true w)
  obtain ⟨c0, r, hcr⟩ : ∃ c0 r, tl z = c0 :: r := by
    cases e : tl z with
    | nil => exact absurd e hne
    | cons c r => exact ⟨c, r, rfl⟩
  walk_at "rd"
  refine ⟨_, _, c0, rfl, rfl, Nat.le_trans hz (by decide), atI_nat (j := 0) (by show (tl z)[0]? = _; rw [hcr]; rfl), ?_⟩
  walk_at "rd"
  refine ite2 (fun h5 => ?_) (fun h5 => ?_)
  · have c48 : c0 = 48 := by
      have e := of_decide_eq_true h5
      injection e with e
      injection e with e
      have e2 : [c0] = [48] := congrArg Array.toList e
      injection e2
    walk_at "rd"
    refine ite2 (fun h6 => ?_) (fun h6 => ?_)
    · have ne0 : tl z ≠ [48] := fun e => by
        have e3 : z = ("0" : Str) := ext_tl (by rw [e]; rfl)
        rw [e3] at h6
        simp at h6
      have e2 : partFault (tl z) = some ("zero" : Str) := by unfold partFault; rw [if_neg hne, if_neg (by rw [hd]; simp), if_neg (by omega), if_pos ⟨by rw [hcr, c48]; rfl, ne0⟩]
      rw [e2] at q
      exact q H1 s1
    · have hh : ¬ ((tl z).head? = some 48 ∧ tl z ≠ [48]) := fun w => h6 (by
        have ne : ¬ V.str z = V.str ("0" : Str) := fun e => by
          injection e with e
          exact w.2 (by rw [e]; rfl)
        rw [decide_eq_false ne]; rfl)
      walk_at "rd"
      refine ⟨_, _, rfl, intText_digits (allDg hd) hne (by omega), by omega, ?_⟩
      walk_at "rd"
      refine ite2 (fun h7 => ?_) (fun h7 => ?_)
      · have h8 : (255 : Int) < ((NumText.digitsVal (tl z) : Nat) : Int) := of_decide_eq_true h7
        have e2 : partFault (tl z) = some ("large" : Str) := by unfold partFault; rw [if_neg hne, if_neg (by rw [hd]; simp), if_neg (by omega), if_neg hh, if_pos (by omega)]
        rw [e2] at q
        exact q H1 s1
      · have h8 : ¬ (255 : Int) < ((NumText.digitsVal (tl z) : Nat) : Int) := fun w => h7 (decide_eq_true w)
        have e2 : partFault (tl z) = none := by unfold partFault; rw [if_neg hne, if_neg (by rw [hd]; simp), if_neg (by omega), if_neg hh, if_neg (by omega)]
        rw [e2] at q
        exact q H1 s1
  · have hh : ¬ ((tl z).head? = some 48 ∧ tl z ≠ [48]) := fun w => h5 (by
      have e : c0 = 48 := by
        have := w.1
        rw [hcr] at this
        injection this
      rw [e]; decide)
    refine iteF ?_
    walk_at "rd"
    refine ⟨_, _, rfl, intText_digits (allDg hd) hne (by omega), by omega, ?_⟩
    walk_at "rd"
    refine ite2 (fun h7 => ?_) (fun h7 => ?_)
    · have h8 : (255 : Int) < ((NumText.digitsVal (tl z) : Nat) : Int) := of_decide_eq_true h7
      have e2 : partFault (tl z) = some ("large" : Str) := by unfold partFault; rw [if_neg hne, if_neg (by rw [hd]; simp), if_neg (by omega), if_neg hh, if_pos (by omega)]
      rw [e2] at q
      exact q H1 s1
    · have h8 : ¬ (255 : Int) < ((NumText.digitsVal (tl z) : Nat) : Int) := fun w => h7 (decide_eq_true w)
      have e2 : partFault (tl z) = none := by unfold partFault; rw [if_neg hne, if_neg (by rw [hd]; simp), if_neg (by omega), if_neg hh, if_neg (by omega)]
      rw [e2] at q
      exact q H1 s1
abbrev s_quad_fault : Stmt := (top 11)
abbrev N_quad_fault : List Str := [("text" : Str), ("parts" : Str), ("part" : Str), ("why" : Str)]
theorem sc_quad_fault : FnScope N_quad_fault [("text" : Str)] (defScope s_quad_fault) := ⟨rfl, rfl, rfl, by decide +kernel, rfl, by decide +kernel, by decide +kernel⟩
def sp_quad_fault (K : Frag) : Sp := fun vs H Q E => ∃ z : Str, vs = [.str z] ∧ z.length ≤ 100000 ∧ ∀ H', Same H H' → Q (optV (quadFault (tl z))) H'
theorem ok_quad_fault (T : Tx K mg) : FnG P w K mg base 2 "quad_fault" (sp_quad_fault K) := by
  have F_part_fault := ok_part_fault (P := P) (w := w) (base := base) T
  refine ⟨fnr T.d_quad_fault sc_quad_fault (fun vs H Q E h => by obtain ⟨z, rfl, hz, q⟩ := h; rfl) (fun _ _ _ _ _ _ us hl => match us, hl with | [_], _ => rfl) (fun cdv A outer s H vs Q E hr h => ?_), T.kp_quad_fault, T.g_quad_fault⟩
  have nd := sc_quad_fault.nd
  have hu := hu_of hr
  obtain ⟨z, rfl, hz, q⟩ := h
  refine ⟨_, PSs.nox (pss_cons (ps_set (i := 1) nd rfl (Or.inl rfl) (pe_split (pv 0) pe_str))
        (pss_cons (ps_if (pt_cmpR op_ne (pe_callB call_len_seq (by rfl) T.f_len (by decide +kernel) (pa_cons (pv 1) pa_nil)) pe_int (nomark _)) (pss_one (ps_ret pe_str))
        pss_nil)
        (pss_cons (ps_for PassesOwn.never rfl (pi_list (pv 1)) (pg_name (i := 2) nd rfl (Or.inl rfl))
        (pss_one (ps_ifW (ptw_cmp op_notN (pew_named (i := 3) nd rfl (Or.inl rfl) (pew_of (pe_f F_part_fault (hr.mono (by decide)) passL (pa_cons (pv 2) pa_nil)))) pe_non (nomark _)) (pss_one (ps_ret (pv 3))) pss_nil)))
        (pss_one (ps_ret pe_non))))), ?_⟩
  have hlen := len_tl z
  walk_at "rd"
  refine ⟨⟨_, rfl⟩, _, _, rfl, rfl, by decide, Nat.le_trans (Nat.add_le_add_right hz 2) (by decide), fun p np => ?_⟩
  have hsp := split_dots z
  have hln : (Txt.split z ("." : Str)).length = (dots (tl z)).length := by rw [← hsp, List.length_map]
  have s1 : Same H (upd H p (.lst ((Txt.split z ("." : Str)).map V.str))) := same_new (Same.refl H) np
  walk_at "rd"
  refine ⟨_, _, rfl, Or.inl (SqL.of upd_same), ?_⟩
  walk_at "rd"
  refine ite2 (fun h => ?_) (fun h => ?_)
  · have h4 : (dots (tl z)).length ≠ 4 := fun e => by
      rw [List.length_map, hln, e] at h
      simp at h
    have e2 : quadFault (tl z) = some ("parts" : Str) := by unfold quadFault; rw [if_neg h4]
    rw [e2] at q
    exact q _ s1
  have h4 : (dots (tl z)).length = 4 := by
    rw [List.length_map, hln] at h
    have h2 : V.int ((dots (tl z)).length : Int) = V.int 4 := by simpa using h
    injection h2 with h2
    omega
  have eq : quadFault (tl z) = firstFault (dots (tl z)) := by unfold quadFault; rw [if_pos h4]
  rw [eq] at q
  walk_at "rd"
  refine ⟨⟨_, SqL.of upd_same⟩, for_list (K := K) (a := p) (xs := (Txt.split z ("." : Str)).map V.str) (fun i σ H2 => ∃ v2 v3 : Option V, σ = [some (.str z), some (.ref p), v2, v3] ∧ Same (upd H p (.lst ((Txt.split z ("." : Str)).map V.str))) H2 ∧ firstFault (dots (tl z)) = firstFault ((dots (tl z)).drop i))
    ⟨none, none, rfl, Same.refl _, rfl⟩ (fun i σ H2 _ ⟨_, _, _, s2, _⟩ => s2.seq (SqL.of upd_same)) ?_ ?_⟩
  · rintro i y σ H2 hi ⟨v2, v3, rfl, s2, ff⟩
    rw [List.getElem?_map] at hi
    cases hx : (Txt.split z ("." : Str))[i]? with
    | none => rw [hx] at hi; cases hi
    | some x =>
    rw [hx] at hi
    cases hi
    have hd : (dots (tl z))[i]? = some (tl x) := by rw [← hsp, List.getElem?_map, hx]; rfl
    have hxl : x.length ≤ 100000 := by
      have hm : tl x ∈ dots (tl z) := List.mem_of_getElem? hd
      have := sp1_len (tl z) [] (tl x) hm
      rw [len_tl x]
      have e0 : ([] : List Nat).length = 0 := rfl
      omega
    obtain ⟨hi2, hd2⟩ := List.getElem?_eq_some_iff.mp hd
    have hdrop : (dots (tl z)).drop i = tl x :: (dots (tl z)).drop (i + 1) := by rw [← hd2]; exact List.drop_eq_getElem_cons hi2
    walk_at "rd"
    refine ⟨hxl, fun H3 s3 => ?_⟩
    cases hf : partFault (tl x) with
    | some why =>
      walk_at "rd"
      have e : firstFault (dots (tl z)) = some why := by rw [ff, hdrop]; unfold firstFault; rw [hf]
      rw [e] at q
      exact q H3 (s1.trans (s2.trans s3))
    | none =>
      walk_at "rd"
      refine ⟨_, _, rfl, s2.trans s3, ?_⟩
      rw [ff, hdrop]
      show (match partFault (tl x) with | some w => some w | none => firstFault ((dots (tl z)).drop (i + 1))) = _
      rw [hf]
  · rintro σ H2 ⟨v2, v3, rfl, s2, ff⟩
    rw [List.length_map, hln, List.drop_length] at ff
    rw [ff] at q
    exact q H2 (s1.trans s2)
theorem first_none : ∀ {ps : List (List Nat)}, firstFault ps = none → ∀ p ∈ ps, partFault p = none
  | [], _, p, h => by cases h
  | x :: r, e, p, h => by
    unfold firstFault at e
    cases hf : partFault x with
    | some w => rw [hf] at e; cases e
    | none =>
      rw [hf] at e
      rcases List.mem_cons.mp h with q | q
      · rw [q]; exact hf
      · exact first_none e p q
theorem first_of : ∀ {ps : List (List Nat)}, (∀ p ∈ ps, partFault p = none) → firstFault ps = none
  | [], _ => rfl
  | x :: r, h => by
    unfold firstFault
    rw [h x (List.mem_cons_self ..)]
    exact first_of fun p hp => h p (List.mem_cons_of_mem _ hp)
theorem quad_none {t : List Nat} (h : quadFault t = none) : (dots t).length = 4 ∧ ∀ p ∈ dots t, partFault p = none := by
  unfold quadFault at h
  split at h
  · rename_i h4
    exact ⟨h4, first_none h⟩
  · cases h
/-- a number as a text -/
def numS (i : Int) : Str := Str.ofString (toString i)
def quadParts (n : Int) : List Str := [24, 16, 8, 0].map fun s : Nat => numS (n / 2 ^ s % 256)
theorem numS_tl {i : Int} (h : 0 ≤ i) : tl (numS i) = numL i.toNat := by
  obtain ⟨k, rfl⟩ := Int.eq_ofNat_of_zero_le h
  unfold numS
  rw [tl_num]; rfl
theorem numS_len {i : Int} (h0 : 0 ≤ i) (h1 : i < 256) : (numS i).length ≤ 3 := by
  rw [len_tl, numS_tl h0]
  exact numL_len (by decide) (by omega)
theorem part_b (n : Int) (s : Nat) : 0 ≤ n / 2 ^ s % 256 ∧ n / 2 ^ s % 256 < 256 := ⟨Int.emod_nonneg _ (by decide), Int.emod_lt_of_pos _ (by decide)⟩
theorem quadParts_sz {n : Int} (h : 0 ≤ n) : ((quadParts n).map fun x => x.length).sum + (quadParts n).length * ("." : Str).length ≤ 16777216 := by
  have a := fun s => numS_len (part_b n s).1 (part_b n s).2
  have l1 : ("." : Str).length = 1 := by decide +kernel
  rw [l1]
  unfold quadParts
  simp only [List.map_cons, List.map_nil, List.sum_cons, List.sum_nil, List.length_cons, List.length_nil]
  have a1 := a 24
  have a2 := a 16
  have a3 := a 8
  have a4 := a 0
  omega
def quadS (n : Int) : Str := Txt.join ("." : Str) (quadParts n)
theorem joinL_len (S : List Nat) : ∀ ps : List (List Nat), (joinL S ps).length ≤ (ps.map List.length).sum + ps.length * S.length
  | [] => by simp [joinL]
  | [p] => by simp [joinL]
  | p :: q :: r => by
    have ih := joinL_len S (q :: r)
    have e : joinL S (p :: q :: r) = p ++ (S ++ joinL S (q :: r)) := rfl
    rw [e]
    simp only [List.length_append, List.map_cons, List.sum_cons, List.length_cons] at ih ⊢
    rw [Nat.succ_mul]
    omega
theorem quadS_tl (n : Int) : tl (quadS n) = joinL [46] ((quadParts n).map tl) := by
  unfold quadS
  rw [join_eq, tl_join]
  have e : tl ("." : Str) = [46] := by decide +kernel
  rw [e]
theorem joinL_mem {S : List Nat} {c : Nat} : ∀ {ps : List (List Nat)}, c ∈ joinL S ps → c ∈ S ∨ ∃ p ∈ ps, c ∈ p
  | [], h => by cases h
  | [p], h => .inr ⟨p, List.mem_singleton.mpr rfl, h⟩
  | p :: q :: r, h => by
    have e : joinL S (p :: q :: r) = p ++ (S ++ joinL S (q :: r)) := rfl
    rw [e] at h
    rcases List.mem_append.mp h with h | h
    · exact .inr ⟨p, List.mem_cons_self .., h⟩
    · rcases List.mem_append.mp h with h | h
      · exact .inl h
      · rcases joinL_mem h with h | ⟨x, hx, h⟩
        · exact .inl h
        · exact .inr ⟨x, List.mem_cons_of_mem _ hx, h⟩
theorem strOk_of {x : Str} (h : ∀ c ∈ tl x, c < 1114112) : PyData.strOk x = true := by
  unfold PyData.strOk
  rw [← Array.all_toList, List.all_eq_true]
  exact fun c hc => decide_eq_true (h c hc)
theorem numL_lt256 {n c : Nat} (h : c ∈ numL n) : c < 58 := by
  have := numL_digits n c h
  omega
theorem quadS_ok {n : Int} (h : 0 ≤ n) : PyData.strOk (quadS n) = true := by
  refine strOk_of fun c hc => ?_
  rw [quadS_tl] at hc
  rcases joinL_mem hc with hc | ⟨p, hp, hc⟩
  · rw [List.mem_singleton.mp hc]; decide
  · obtain ⟨x, hx, rfl⟩ := List.mem_map.mp hp
    obtain ⟨s, _, rfl⟩ := List.mem_map.mp hx
    rw [numS_tl (part_b n s).1] at hc
    have := numL_lt256 hc
    omega
theorem quadS_len {n : Int} (h : 0 ≤ n) : (quadS n).length ≤ 16 := by
  rw [len_tl, quadS_tl]
  refine Nat.le_trans (joinL_len _ _) ?_
  have a := fun s => numS_len (part_b n s).1 (part_b n s).2
  unfold quadParts
  simp only [List.map_cons, List.map_nil, List.sum_cons, List.sum_nil, List.length_cons, List.length_nil, ← len_tl]
  have a1 := a 24
  have a2 := a 16
  have a3 := a 8
  have a4 := a 0
  omega
theorem quadS_sz {n : Int} (h : 0 ≤ n) : (quadS n).length ≤ sizeLine := Nat.le_trans (quadS_len h) (by decide)
abbrev s_read_quad : Stmt := (top 12)
abbrev N_read_quad : List Str := [("text" : Str), ("why" : Str), ("found" : Str), ("part" : Str)]
theorem sc_read_quad : FnScope N_read_quad [("text" : Str)] (defScope s_read_quad) := ⟨rfl, rfl, rfl, by decide +kernel, rfl, by decide +kernel, by decide +kernel⟩
def sp_read_quad (K : Frag) : Sp := fun vs H Q E => ∃ z : Str, vs = [.str z] ∧ z.length ≤ 100000 ∧ quadFault (tl z) = none ∧ ∀ H', Same H H' → Q (.int (quadVal (dots (tl z)))) H'
theorem ok_read_quad (T : Tx K mg) : FnG P w K mg base 3 "read_quad" (sp_read_quad K) := by
  have F_quad_fault := ok_quad_fault (P := P) (w := w) (base := base) T
  refine ⟨fnr T.d_read_quad sc_read_quad (fun vs H Q E h => by obtain ⟨z, rfl, hz, hq, q⟩ := h; rfl) (fun _ _ _ _ _ _ us hl => match us, hl with | [_], _ => rfl) (fun cdv A outer s H vs Q E hr h => ?_), T.kp_read_quad, T.g_read_quad⟩
  have nd := sc_read_quad.nd
  have hu := hu_of hr
  obtain ⟨z, rfl, hz, hq, q⟩ := h
  refine ⟨_, PSs.nox (pss_cons (ps_set (i := 1) nd rfl (Or.inl rfl) (pe_f F_quad_fault (hr.mono (by decide)) passL (pa_cons (pv 0) pa_nil)))
        (pss_cons (ps_if (pt_cmpR op_notN (pv 1) pe_non (nomark _)) (pss_one ps_never)
        pss_nil)
        (pss_cons (ps_set (i := 2) nd rfl (Or.inl rfl) pe_int)
        (pss_cons (ps_for PassesOwn.never rfl (pi_list (pe_split (pv 0) pe_str)) (pg_name (i := 3) nd rfl (Or.inl rfl))
        (pss_one (ps_set (i := 2) nd rfl (Or.inl rfl) (pe_op op_add (pe_op op_mul (pv 2) pe_int) (pe_callTy call_int_str (by rfl) T.f_int (by decide +kernel) (pa_cons (pv 3) pa_nil))))))
        (pss_one (ps_ret (pv 2))))))), ?_⟩
  obtain ⟨hd4, hps⟩ := quad_none hq
  walk_at "rd"
  refine ⟨hz, fun H1 s1 => ?_⟩
  rw [hq]
  walk_at "rd"
  refine ⟨⟨_, rfl⟩, _, _, rfl, rfl, by decide, Nat.le_trans (Nat.add_le_add_right hz 2) (by decide), fun p np => ?_⟩
  have hsp := split_dots z
  have hln : (Txt.split z ("." : Str)).length = (dots (tl z)).length := by rw [← hsp, List.length_map]
  have s2 : Same H (upd H1 p (.lst ((Txt.split z ("." : Str)).map V.str))) := same_new s1 np
  refine ⟨_, rfl, ⟨_, SqL.of upd_same⟩, for_list (K := K) (a := p) (xs := (Txt.split z ("." : Str)).map V.str) (fun i σ H2 => ∃ v3 : Option V, σ = [some (.str z), some .non, some (.int (quadVal ((dots (tl z)).take i))), v3] ∧ Same (upd H1 p (.lst ((Txt.split z ("." : Str)).map V.str))) H2)
    ⟨none, rfl, Same.refl _⟩ (fun i σ H2 _ ⟨_, _, s3⟩ => s3.seq (SqL.of upd_same)) ?_ ?_⟩
  · rintro i y σ H2 hi ⟨v3, rfl, s3⟩
    rw [List.getElem?_map] at hi
    cases hx : (Txt.split z ("." : Str))[i]? with
    | none => rw [hx] at hi; cases hi
    | some x =>
    rw [hx] at hi
    cases hi
    have hd : (dots (tl z))[i]? = some (tl x) := by rw [← hsp, List.getElem?_map, hx]; rfl
    obtain ⟨f1, f2, f3, f4, f5⟩ := fault_none (hps _ (List.mem_of_getElem? hd))
    have hxl := len_tl x
    walk_at "rd"
    refine ⟨_, _, rfl, intText_digits (allDg f2) f1 (by omega), by omega, ?_⟩
    walk_at "rd"
    refine ⟨some (V.str x), ?_, s3⟩
    rw [take_succ' hd]
    unfold quadVal
    rw [List.foldl_append]
    show _ = [_, _, some (V.int (((List.foldl (fun a p => a * 256 + NumText.digitsVal p) 0 (List.take i (dots (tl z)))) * 256 + NumText.digitsVal (tl x) : Nat) : Int)), _]
    rw [Int.natCast_add, Int.natCast_mul]; rfl
  · rintro σ H2 ⟨v3, rfl, s3⟩
    refine ⟨_, rfl, ?_⟩
    rw [List.length_map, hln, List.take_length]
    exact q H2 (s2.trans s3)
abbrev s_quad_parts : Stmt := (top 13)
abbrev N_quad_parts : List Str := [("number" : Str), ("shift" : Str)]
theorem sc_quad_parts : FnScope N_quad_parts [("number" : Str)] (defScope s_quad_parts) := ⟨rfl, rfl, rfl, by decide +kernel, rfl, by decide +kernel, by decide +kernel⟩
def sp_quad_parts (K : Frag) : Sp := fun vs H Q E => ∃ n : Int, vs = [.int n] ∧ 0 ≤ n ∧ n < 2 ^ 130 ∧ ∀ (p : Addr) (H' : Hp), Same H H' → H p = none → H' p = some (.lst ((quadParts n).map V.str)) → Q (.ref p) H'
theorem ok_quad_parts (T : Tx K mg) : FnG P w K mg base 1 "quad_parts" (sp_quad_parts K) := by
  refine ⟨fnr T.d_quad_parts sc_quad_parts (fun vs H Q E h => by obtain ⟨n, rfl, h0, h1, q⟩ := h; rfl) (fun _ _ _ _ _ _ us hl => match us, hl with | [_], _ => rfl) (fun cdv A outer s H vs Q E hr h => ?_), T.kp_quad_parts, T.g_quad_parts⟩
  have nd := sc_quad_parts.nd
  have hu := hu_of hr
  obtain ⟨n, rfl, h0, h1, q⟩ := h
  refine ⟨_, PSs.nox (pss_one (ps_ret (pe_lc (own := [("shift", 1)]) rfl nd (pi_tup (pe_tup (pa_cons pe_int (pa_cons pe_int (pa_cons pe_int (pa_cons pe_int pa_nil)))))) (blkOk_by (own := [("shift", 1)]) (N := N_quad_parts) (sc := defScope s_quad_parts) (by decide +kernel)) (fun _ _ _ _ _ => (pg_name (i := 1) nd rfl (Or.inl rfl))) (fun _ _ _ _ _ => pts_nil) (fun _ _ _ _ _ => (pe_joined1 (pe_fmt (pe_op op_and (pe_op op_shr (pv 0) (pv 1)) pe_int))))))), ?_⟩
  refine ⟨lz, fun p np => ?_⟩
  refine ⟨p, rfl, ⟨_, SqT.of upd_same⟩, fun D nD => ?_⟩
  refine lc_mp ([24, 16, 8, 0] : List Nat) (fun s : Nat => V.int (s : Int)) (fun s : Nat => V.str (numS (n / 2 ^ s % 256))) (walk_tup (K := K) (a := p) (xs := ([24, 16, 8, 0] : List Nat).map fun s : Nat => V.int (s : Int))) rfl (by decide) yat_map nD (fun H' s' => SqT.of (s' _ _ upd_same)) ?_ ?_
  · intro c hc H1 s1 Qe k
    refine ⟨rfl, ?_⟩
    walk_at "rd"
    have nn : 0 ≤ n / 2 ^ ((c : Int)).toNat := Int.ediv_nonneg h0 (by have := pow_pos' ((c : Int)).toNat; omega)
    have ea := and255 nn
    refine Or.inr ⟨_, rfl, ?_, ?_⟩
    · rw [ea]; exact log_small (by omega) (by omega)
    · rw [ea]; exact k H1 (Same.refl _)
  · intro H1 s1 h1
    refine q D H1 ((same_new (Same.refl H) np).trans s1) ((same_new (Same.refl H) np).free nD) ?_
    rw [h1]; rfl
abbrev s_quad_text : Stmt := (top 14)
abbrev N_quad_text : List Str := [("number" : Str)]
theorem sc_quad_text : FnScope N_quad_text [("number" : Str)] (defScope s_quad_text) := ⟨rfl, rfl, rfl, by decide +kernel, rfl, by decide +kernel, by decide +kernel⟩
def sp_quad_text (K : Frag) : Sp := fun vs H Q E => ∃ n : Int, vs = [.int n] ∧ 0 ≤ n ∧ n < 2 ^ 130 ∧ ∀ H', Same H H' → Q (.str (quadS n)) H'
theorem ok_quad_text (T : Tx K mg) : FnG P w K mg base 2 "quad_text" (sp_quad_text K) := by
  have F_quad_parts := ok_quad_parts (P := P) (w := w) (base := base) T
  refine ⟨fnr T.d_quad_text sc_quad_text (fun vs H Q E h => by obtain ⟨n, rfl, h0, h1, q⟩ := h; rfl) (fun _ _ _ _ _ _ us hl => match us, hl with | [_], _ => rfl) (fun cdv A outer s H vs Q E hr h => ?_), T.kp_quad_text, T.g_quad_text⟩
  have nd := sc_quad_text.nd
  have hu := hu_of hr
  obtain ⟨n, rfl, h0, h1, q⟩ := h
  refine ⟨_, PSs.nox (pss_one (ps_ret (pe_join pe_str (pe_f F_quad_parts (hr.mono (by decide)) passL (pa_cons (pv 0) pa_nil))))), ?_⟩
  refine ⟨⟨_, rfl⟩, ?_⟩
  walk_at "rd"
  refine ⟨h0, h1, fun p H1 s1 np hp => ?_⟩
  refine ⟨_, _, _, rfl, rfl, Or.inl (SqL.of hp), ?_, ?_⟩
  · exact quadParts_sz h0
  exact q H1 s1
abbrev s_is_integer : Stmt := (top 29)
abbrev N_is_integer : List Str := [("thing" : Str)]
theorem sc_is_integer : FnScope N_is_integer [("thing" : Str)] (defScope s_is_integer) := ⟨rfl, rfl, rfl, by decide +kernel, rfl, by decide +kernel, by decide +kernel⟩
def sp_is_integer (K : Frag) : Sp := fun vs H Q E => ∃ (x : V) (t : Value) (b1 b2 : Bool), vs = [x] ∧ TyX K H x t ∧ kitOne K t (.type "int") = some b1 ∧ kitOne K t (.type "bool") = some b2 ∧ Q (.bl (b1 && !b2)) H
theorem ok_is_integer (T : Tx K mg) : FnG P w K mg base 1 "is_integer" (sp_is_integer K) := by
  refine ⟨fnr T.d_is_integer sc_is_integer (fun vs H Q E h => by obtain ⟨x, t, b1, b2, rfl, ht, k1, k2, q⟩ := h; rfl) (fun _ _ _ _ _ _ us hl => match us, hl with | [_], _ => rfl) (fun cdv A outer s H vs Q E hr h => ?_), T.kp_is_integer, T.g_is_integer⟩
  have nd := sc_is_integer.nd
  have hu := hu_of hr
  obtain ⟨x, t, b1, b2, rfl, ht, k1, k2, q⟩ := h
  refine ⟨_, PSs.nox (pss_one (ps_ret (pe_and (pe_callB call_isi (by rfl) T.f_isinstance (by decide +kernel) (pa_cons (pv 0) (pa_cons (pe_bltn (v := .ty "int") (u := .type "int") rfl T.f_int (by decide +kernel) rfl) pa_nil))) (pe_one (pe_not (pe_callB call_isi (by rfl) T.f_isinstance (by decide +kernel) (pa_cons (pv 0) (pa_cons (pe_bltn (v := .ty "bool") (u := .type "bool") rfl T.f_bool (by decide +kernel) rfl) pa_nil)))))))), ?_⟩
  walk_at "rd"
  refine ⟨_, _, _, _, b1, rfl, .ty _, ht, k1, ?_⟩
  cases b1 with
  | false =>
    walk_at "rd"
    exact q
  | true =>
    walk_at "rd"
    refine ⟨_, _, _, _, b2, rfl, .ty _, ht, k2, ?_⟩
    walk_at "rd"
    exact q
theorem kit_ii {K : Frag} : kitOne K (.type "int") (.type "int") = some true := kit_ty (by decide +kernel)
theorem kit_ib {K : Frag} : kitOne K (.type "int") (.type "bool") = some false := kit_ty (by decide +kernel)
theorem kit_si {K : Frag} : kitOne K (.type "str") (.type "int") = some false := kit_ty (by decide +kernel)
theorem kit_sb {K : Frag} : kitOne K (.type "str") (.type "bool") = some false := kit_ty (by decide +kernel)
theorem kit_ss {K : Frag} : kitOne K (.type "str") (.type "str") = some true := kit_ty (by decide +kernel)
theorem kit_bb {K : Frag} : kitOne K (.type "bool") (.type "bool") = some true := kit_ty (by decide +kernel)
abbrev s_is_from_int : Stmt := (top 30)
abbrev N_is_from_int : List Str := [("thing" : Str), ("low" : Str), ("high" : Str)]
theorem sc_is_from_int : FnScope N_is_from_int [("thing" : Str), ("low" : Str), ("high" : Str)] (defScope s_is_from_int) := ⟨rfl, rfl, rfl, by decide +kernel, rfl, by decide +kernel, by decide +kernel⟩
def sp_is_from_int (K : Frag) : Sp := fun vs H Q E => ∃ i lo hi : Int, vs = [.int i, .int lo, .int hi] ∧ Q (.bl (decide (lo ≤ i) && decide (i ≤ hi))) H
theorem ok_is_from_int (T : Tx K mg) : FnG P w K mg base 2 "is_from" (sp_is_from_int K) := by
  have F_is_integer := ok_is_integer (P := P) (w := w) (base := base) T
  refine ⟨fnr T.d_is_from sc_is_from_int (fun vs H Q E h => by obtain ⟨i, lo, hi, rfl, q⟩ := h; rfl) (fun _ _ _ _ _ _ us hl => match us, hl with | [_, _, _], _ => rfl) (fun cdv A outer s H vs Q E hr h => ?_), T.kp_is_from, T.g_is_from⟩
  have nd := sc_is_from_int.nd
  have hu := hu_of hr
  obtain ⟨i, lo, hi, rfl, q⟩ := h
  refine ⟨_, PSs.nox (pss_one (ps_ret (pe_and (pe_f F_is_integer (hr.mono (by decide)) passL (pa_cons (pv 0) pa_nil)) (pe_one (pe_chain op_le op_le (pv 1) (pv 0) (pv 2)))))), ?_⟩
  walk_at "rd"
  refine ⟨_, _, true, false, rfl, .base (.int i), kit_ii, kit_ib, ?_⟩
  walk_at "rd"
  cases h : decide (lo ≤ i) with
  | false =>
    rw [h] at q
    exact q
  | true =>
    rw [h] at q
    walk_at "rd"
    exact q
abbrev s_number_of_int : Stmt := (top 32)
abbrev N_number_of_int : List Str := [("value" : Str), ("width" : Str)]
theorem sc_number_of_int : FnScope N_number_of_int [("value" : Str), ("width" : Str)] (defScope s_number_of_int) := ⟨rfl, rfl, rfl, by decide +kernel, rfl, by decide +kernel, by decide +kernel⟩
def sp_number_of_int (K : Frag) : Sp := fun vs H Q E => ∃ i b : Int, vs = [.int i, .int b] ∧ (b = 32 ∨ b = 128) ∧ 0 ≤ i ∧ i < 2 ^ b.toNat ∧ Q (.int i) H
theorem ok_number_of_int (T : Tx K mg) : FnG P w K mg base 3 "number_of" (sp_number_of_int K) := by
  have F_is_integer := ok_is_integer (P := P) (w := w) (base := base) T
  have F_is_from_int := ok_is_from_int (P := P) (w := w) (base := base) T
  refine ⟨fnr T.d_number_of sc_number_of_int (fun vs H Q E h => by obtain ⟨i, b, rfl, hb, h0, h1, q⟩ := h; rfl) (fun _ _ _ _ _ _ us hl => match us, hl with | [_, _], _ => rfl) (fun cdv A outer s H vs Q E hr h => ?_), T.kp_number_of, T.g_number_of⟩
  have nd := sc_number_of_int.nd
  have hu := hu_of hr
  obtain ⟨i, b, rfl, hb, h0, h1, q⟩ := h
  refine ⟨_, PSs.nox (pss_cons (ps_if (pt_val (pe_f F_is_integer (hr.mono (by decide)) passL (pa_cons (pv 0) pa_nil))) (pss_cons (ps_if (pt_not (pt_val (pe_f F_is_from_int (hr.mono (by decide)) passL (pa_cons (pv 0) (pa_cons pe_int (pa_cons (pe_op op_sub (pe_op op_shlW pe_int (pv 1)) pe_int) pa_nil)))))) (pss_one ps_never)
        pss_nil)
        (pss_one (ps_ret (pv 0))))
        pss_nil)
        pss_never), ?_⟩
  have hb2 : 0 ≤ b ∧ b ≤ 1000 := by omega
  walk_at "rd"
  refine ⟨_, _, true, false, rfl, .base (.int i), kit_ii, kit_ib, ?_⟩
  walk_at "rd"
  refine ⟨_, _, _, rfl, ?_⟩
  have e1 : decide (0 ≤ i) = true := decide_eq_true h0
  have e2 : decide (i ≤ 1 * 2 ^ b.toNat - 1) = true := decide_eq_true (by omega)
  rw [e1, e2]
  walk_at "rd"
  exact q
abbrev s_number_of_str4 : Stmt := (top 32)
abbrev N_number_of_str4 : List Str := [("value" : Str), ("width" : Str)]
theorem sc_number_of_str4 : FnScope N_number_of_str4 [("value" : Str), ("width" : Str)] (defScope s_number_of_str4) := ⟨rfl, rfl, rfl, by decide +kernel, rfl, by decide +kernel, by decide +kernel⟩
def sp_number_of_str4 (K : Frag) : Sp := fun vs H Q E => ∃ z : Str, vs = [.str z, .int 32] ∧ z.length ≤ 100000 ∧ quadFault (tl z) = none ∧ ∀ H', Same H H' → Q (.int (quadVal (dots (tl z)))) H'
theorem ok_number_of_str4 (T : Tx K mg) : FnG P w K mg base 4 "number_of" (sp_number_of_str4 K) := by
  have F_is_integer := ok_is_integer (P := P) (w := w) (base := base) T
  have F_read_quad := ok_read_quad (P := P) (w := w) (base := base) T
  refine ⟨fnr T.d_number_of sc_number_of_str4 (fun vs H Q E h => by obtain ⟨z, rfl, hz, hq, q⟩ := h; rfl) (fun _ _ _ _ _ _ us hl => match us, hl with | [_, _], _ => rfl) (fun cdv A outer s H vs Q E hr h => ?_), T.kp_number_of, T.g_number_of⟩
  have nd := sc_number_of_str4.nd
  have hu := hu_of hr
  obtain ⟨z, rfl, hz, hq, q⟩ := h
  refine ⟨_, PSs.nox (pss_cons (ps_if (pt_val (pe_f F_is_integer (hr.mono (by decide)) passL (pa_cons (pv 0) pa_nil))) pss_never
        pss_nil)
        (pss_cons (ps_if (pt_val (pe_callB call_isi (by rfl) T.f_isinstance (by decide +kernel) (pa_cons (pv 0) (pa_cons (pe_bltn (v := .ty "str") (u := .type "str") rfl T.f_str (by decide +kernel) rfl) pa_nil)))) (pss_one (ps_ret (pe_ifExp (pt_cmpR op_eq (pv 1) (pe_gi T.i_WIDTH4) (nomark _)) (pe_f F_read_quad (hr.mono (by decide)) passL (pa_cons (pv 0) pa_nil)) pe_never)))
        pss_nil)
        pss_never)), ?_⟩
  walk_at "rd"
  refine ⟨_, _, false, false, rfl, .base (.str z), kit_si, kit_sb, ?_⟩
  walk_at "rd"
  refine ⟨_, _, _, _, true, rfl, .ty _, .base (.str z), kit_ss, ?_⟩
  walk_at "rd"
  exact ⟨hz, hq, q⟩
/-- at p stands the version 4 address of n -/
structure IsA4 (K : Frag) (H : Hp) (p : Addr) (n : Int) : Prop where
  ge : 0 ≤ n
  lt : n < 4294967296
  ob : ∃ dx, H p = some (.ins (He.ga K "Address4") dx [("number", .int n)])
theorem IsA4.same {K : Frag} {H H' : Hp} {p : Addr} {n : Int} (h : IsA4 K H p n) (e : Same H H') : IsA4 K H' p n := by
  obtain ⟨a, b, dx, c⟩ := h
  exact ⟨a, b, dx, e _ _ c⟩
theorem IsA4.but {K : Frag} {H H' : Hp} {p a : Addr} {n : Int} (h : IsA4 K H p n) (S : Srcs H a) (e : But a H H') : IsA4 K H' p n := by
  obtain ⟨x, y, dx, c⟩ := h
  exact ⟨x, y, dx, e _ _ c (S.neO c (fun _ z => by cases z))⟩
theorem same_made {H H' : Hp} {a dx : Addr} {o o' : HO} (na : H a = none) (ndx : H dx = none) (e : Same (upd (upd H dx (.own a)) a o) H') : Same H (upd H' a o') := fun b u h => by
  have hb : b ≠ a := fun z => by rw [z, na] at h; cases h
  have hd : b ≠ dx := fun z => by rw [z, ndx] at h; cases h
  rw [upd_ne hb]
  refine e b u ?_
  rw [upd_ne hb, upd_ne hd]; exact h
abbrev s_Address4___init___int : Stmt := (inClass (top 33) 2)
abbrev N_Address4___init___int : List Str := [("self" : Str), ("value" : Str)]
theorem sc_Address4___init___int : FnScope N_Address4___init___int [("self" : Str), ("value" : Str)] (defScope s_Address4___init___int) := ⟨rfl, rfl, rfl, by decide +kernel, rfl, by decide +kernel, by decide +kernel⟩
def sp_Address4___init___int (K : Frag) : Sp := fun vs H Q E => ∃ (p dx : Addr) (i : Int), vs = [.ref p, .int i] ∧ H p = some (.ins (He.ga K "Address4") dx []) ∧ 0 ≤ i ∧ i < 4294967296 ∧ Q .non (upd H p (.ins (He.ga K "Address4") dx [("number", .int i)]))
theorem ok_Address4___init___int (T : Tx K mg) : Wc P w K mg base 4 (He.ma K (He.ga K "Address4") "__init__") (sp_Address4___init___int K) := by
  have F_number_of_int := ok_number_of_int (P := P) (w := w) (base := base) T
  refine fnr T.dm_Address4____init__ sc_Address4___init___int (fun vs H Q E h => by obtain ⟨p, dx, i, rfl, hp, h0, h1, q⟩ := h; rfl) (fun _ _ _ _ _ _ us hl => match us, hl with | [_, _], _ => rfl) (fun cdv A outer s H vs Q E hr h => ?_)
  have nd := sc_Address4___init___int.nd
  have hu := hu_of hr
  obtain ⟨p, dx, i, rfl, hp, h0, h1, q⟩ := h
  refine ⟨_, PSs.nox (pss_one (ps_fld (pv 0) (pe_ifExp (pt_val (pe_callB call_isi (by rfl) T.f_isinstance (by decide +kernel) (pa_cons (pv 1) (pa_cons (pe_glob (v := .ref (He.ga K "Address4")) rfl T.g_Address4 rfl) pa_nil)))) pe_never (pe_f F_number_of_int (hr.mono (by decide)) passL (pa_cons (pv 1) (pa_cons (pe_gi T.i_WIDTH4) pa_nil)))) rfl)), ?_⟩
  have x32 := e32
  walk_at "rd"
  refine ⟨_, _, _, _, false, rfl, .own _, .base (.int i), T.ki_int_Address4, ?_⟩
  walk_at "rd"
  refine ⟨_, _, rfl, .inl rfl, h0, by omega, ?_⟩
  walk_at "rd"
  exact ⟨p, _, dx, _, rfl, hp, T.c_Address4, T.na_Address4__number, lz, q⟩
abbrev s_Address4___init___str : Stmt := (inClass (top 33) 2)
abbrev N_Address4___init___str : List Str := [("self" : Str), ("value" : Str)]
theorem sc_Address4___init___str : FnScope N_Address4___init___str [("self" : Str), ("value" : Str)] (defScope s_Address4___init___str) := ⟨rfl, rfl, rfl, by decide +kernel, rfl, by decide +kernel, by decide +kernel⟩
def sp_Address4___init___str (K : Frag) : Sp := fun vs H Q E => ∃ (p dx : Addr) (z : Str), vs = [.ref p, .str z] ∧ H p = some (.ins (He.ga K "Address4") dx []) ∧ z.length ≤ 100000 ∧ quadFault (tl z) = none ∧ ∀ H', Same H H' → Q .non (upd H' p (.ins (He.ga K "Address4") dx [("number", .int (quadVal (dots (tl z))))]))
theorem ok_Address4___init___str (T : Tx K mg) : Wc P w K mg base 5 (He.ma K (He.ga K "Address4") "__init__") (sp_Address4___init___str K) := by
  have F_number_of_str4 := ok_number_of_str4 (P := P) (w := w) (base := base) T
  refine fnr T.dm_Address4____init__ sc_Address4___init___str (fun vs H Q E h => by obtain ⟨p, dx, z, rfl, hp, hz, hq, q⟩ := h; rfl) (fun _ _ _ _ _ _ us hl => match us, hl with | [_, _], _ => rfl) (fun cdv A outer s H vs Q E hr h => ?_)
  have nd := sc_Address4___init___str.nd
  have hu := hu_of hr
  obtain ⟨p, dx, z, rfl, hp, hz, hq, q⟩ := h
  refine ⟨_, PSs.nox (pss_one (ps_fld (pv 0) (pe_ifExp (pt_val (pe_callB call_isi (by rfl) T.f_isinstance (by decide +kernel) (pa_cons (pv 1) (pa_cons (pe_glob (v := .ref (He.ga K "Address4")) rfl T.g_Address4 rfl) pa_nil)))) pe_never (pe_f F_number_of_str4 (hr.mono (by decide)) passL (pa_cons (pv 1) (pa_cons (pe_gi T.i_WIDTH4) pa_nil)))) rfl)), ?_⟩
  walk_at "rd"
  refine ⟨_, _, _, _, false, rfl, .own _, .base (.str z), T.ki_str_Address4, ?_⟩
  walk_at "rd"
  refine ⟨hz, hq, fun H1 s1 => ?_⟩
  walk_at "rd"
  exact ⟨p, _, dx, _, rfl, s1 _ _ hp, T.c_Address4, T.na_Address4__number, lz, q H1 s1⟩
abbrev s_Address4___init___Address4 : Stmt := (inClass (top 33) 2)
abbrev N_Address4___init___Address4 : List Str := [("self" : Str), ("value" : Str)]
theorem sc_Address4___init___Address4 : FnScope N_Address4___init___Address4 [("self" : Str), ("value" : Str)] (defScope s_Address4___init___Address4) := ⟨rfl, rfl, rfl, by decide +kernel, rfl, by decide +kernel, by decide +kernel⟩
def sp_Address4___init___Address4 (K : Frag) : Sp := fun vs H Q E => ∃ (p dx b : Addr) (n : Int), vs = [.ref p, .ref b] ∧ H p = some (.ins (He.ga K "Address4") dx []) ∧ IsA4 K H b n ∧ Q .non (upd H p (.ins (He.ga K "Address4") dx [("number", .int n)]))
theorem ok_Address4___init___Address4 (T : Tx K mg) : Wc P w K mg base 1 (He.ma K (He.ga K "Address4") "__init__") (sp_Address4___init___Address4 K) := by
  refine fnr T.dm_Address4____init__ sc_Address4___init___Address4 (fun vs H Q E h => by obtain ⟨p, dx, b, n, rfl, hp, ⟨n0, n1, db, hb⟩, q⟩ := h; rfl) (fun _ _ _ _ _ _ us hl => match us, hl with | [_, _], _ => rfl) (fun cdv A outer s H vs Q E hr h => ?_)
  have nd := sc_Address4___init___Address4.nd
  have hu := hu_of hr
  obtain ⟨p, dx, b, n, rfl, hp, ⟨n0, n1, db, hb⟩, q⟩ := h
  refine ⟨_, PSs.nox (pss_one (ps_fld (pv 0) (pe_ifExp (pt_val (pe_callB call_isi (by rfl) T.f_isinstance (by decide +kernel) (pa_cons (pv 1) (pa_cons (pe_glob (v := .ref (He.ga K "Address4")) rfl T.g_Address4 rfl) pa_nil)))) (pe_fld (pv 1) rfl) pe_never) rfl)), ?_⟩
  walk_at "rd"
  refine ⟨_, _, _, _, true, rfl, .own _, T.ty_Address4.tx hb, T.ki_Address4_Address4, ?_⟩
  walk_at "rd"
  refine ⟨_, _, _, _, _, rfl, hb, T.c_Address4, T.na_Address4__number, rfl, ?_⟩
  walk_at "rd"
  exact ⟨p, _, dx, _, rfl, hp, T.c_Address4, T.na_Address4__number, lz, q⟩
def sp_Address4_int (K : Frag) : Sp := fun vs H Q E => ∃ i : Int, vs = [.int i] ∧ 0 ≤ i ∧ i < 4294967296 ∧ ∀ (a : Addr) (H' : Hp), Same H H' → H a = none → IsA4 K H' a i → Q (.ref a) H'
theorem ok_Address4_int (T : Tx K mg) : FnC P w K mg base 4 "Address4" (sp_Address4_int K) := by
  refine ⟨⟨_, _, T.mk_Address4, ok_Address4___init___int (P := P) (w := w) (base := base) T, fun vs H Q E h a dx na ndx nda => ?_⟩, T.g_Address4⟩
  obtain ⟨i, rfl, h0, h1, q⟩ := h
  exact ⟨a, dx, i, rfl, upd_same, h0, h1, rfl, q a _ (same_made na ndx (Same.refl _)) na ⟨h0, h1, dx, upd_same⟩⟩
def sp_Address4_str (K : Frag) : Sp := fun vs H Q E => ∃ (z : Str) (n : Int), vs = [.str z] ∧ z.length ≤ 100000 ∧ quadFault (tl z) = none ∧ n = quadVal (dots (tl z)) ∧ n < 4294967296 ∧ ∀ (a : Addr) (H' : Hp), Same H H' → H a = none → IsA4 K H' a n → Q (.ref a) H'
theorem ok_Address4_str (T : Tx K mg) : FnC P w K mg base 5 "Address4" (sp_Address4_str K) := by
  refine ⟨⟨_, _, T.mk_Address4, ok_Address4___init___str (P := P) (w := w) (base := base) T, fun vs H Q E h a dx na ndx nda => ?_⟩, T.g_Address4⟩
  obtain ⟨z, n, rfl, hz, hq, rfl, hn, q⟩ := h
  exact ⟨a, dx, z, rfl, upd_same, hz, hq, fun H1 s1 => ⟨rfl, q a _ (same_made na ndx s1) na ⟨by omega, hn, dx, upd_same⟩⟩⟩
def sp_Address4_Address4 (K : Frag) : Sp := fun vs H Q E => ∃ (b : Addr) (n : Int), vs = [.ref b] ∧ IsA4 K H b n ∧ ∀ (a : Addr) (H' : Hp), Same H H' → H a = none → IsA4 K H' a n → Q (.ref a) H'
theorem ok_Address4_Address4 (T : Tx K mg) : FnC P w K mg base 1 "Address4" (sp_Address4_Address4 K) := by
  refine ⟨⟨_, _, T.mk_Address4, ok_Address4___init___Address4 (P := P) (w := w) (base := base) T, fun vs H Q E h a dx na ndx nda => ?_⟩, T.g_Address4⟩
  obtain ⟨b, n, rfl, hb, q⟩ := h
  have s1 : Same H (upd (upd H dx (.own a)) a (.ins (He.ga K "Address4") dx [])) := fun c u h => by
    rw [upd_ne (fun z => by rw [z, na] at h; cases h), upd_ne (fun z => by rw [z, ndx] at h; cases h)]; exact h
  exact ⟨a, dx, b, n, rfl, upd_same, hb.same s1, rfl, q a _ (same_made na ndx (Same.refl _)) na ⟨hb.ge, hb.lt, dx, upd_same⟩⟩
abbrev s_Address4_full : Stmt := (inClass (top 33) 6)
abbrev N_Address4_full : List Str := [("self" : Str)]
theorem sc_Address4_full : FnScope N_Address4_full [("self" : Str)] (defScope s_Address4_full) := ⟨rfl, rfl, rfl, by decide +kernel, rfl, by decide +kernel, by decide +kernel⟩
def sp_Address4_full (K : Frag) : Sp := fun vs H Q E => ∃ (p : Addr) (n : Int), vs = [.ref p] ∧ IsA4 K H p n ∧ ∀ H', Same H H' → Q (.str (quadS n)) H'
theorem ok_Address4_full (T : Tx K mg) : Wc P w K mg base 3 (wfA K "Address4" "property" "full") (sp_Address4_full K) := by
  have F_quad_text := ok_quad_text (P := P) (w := w) (base := base) T
  refine fnr T.dm_Address4__full sc_Address4_full (fun vs H Q E h => by obtain ⟨p, n, rfl, ⟨n0, n1, dx, hp⟩, q⟩ := h; rfl) (fun _ _ _ _ _ _ us hl => match us, hl with | [_], _ => rfl) (fun cdv A outer s H vs Q E hr h => ?_)
  have nd := sc_Address4_full.nd
  have hu := hu_of hr
  obtain ⟨p, n, rfl, ⟨n0, n1, dx, hp⟩, q⟩ := h
  refine ⟨_, PSs.nox (pss_one (ps_ret (pe_f F_quad_text (hr.mono (by decide)) passL (pa_cons (pe_fld (pv 0) rfl) pa_nil)))), ?_⟩
  walk_at "rd"
  refine ⟨_, _, _, _, _, rfl, hp, T.c_Address4, T.na_Address4__number, rfl, ?_⟩
  walk_at "rd"
  exact ⟨n0, by omega, q⟩
abbrev s_Address4___str__ : Stmt := (inClass (top 33) 12)
abbrev N_Address4___str__ : List Str := [("self" : Str)]
theorem sc_Address4___str__ : FnScope N_Address4___str__ [("self" : Str)] (defScope s_Address4___str__) := ⟨rfl, rfl, rfl, by decide +kernel, rfl, by decide +kernel, by decide +kernel⟩
def sp_Address4___str__ (K : Frag) : Sp := fun vs H Q E => ∃ (p : Addr) (n : Int), vs = [.ref p] ∧ IsA4 K H p n ∧ ∀ H', Same H H' → Q (.str (quadS n)) H'
theorem ok_Address4___str__ (T : Tx K mg) : Wc P w K mg base 3 (He.ma K (He.ga K "Address4") "__str__") (sp_Address4___str__ K) := by
  have F_quad_text := ok_quad_text (P := P) (w := w) (base := base) T
  refine fnr T.dm_Address4____str__ sc_Address4___str__ (fun vs H Q E h => by obtain ⟨p, n, rfl, ⟨n0, n1, dx, hp⟩, q⟩ := h; rfl) (fun _ _ _ _ _ _ us hl => match us, hl with | [_], _ => rfl) (fun cdv A outer s H vs Q E hr h => ?_)
  have nd := sc_Address4___str__.nd
  have hu := hu_of hr
  obtain ⟨p, n, rfl, ⟨n0, n1, dx, hp⟩, q⟩ := h
  refine ⟨_, PSs.nox (pss_one (ps_ret (pe_joined1 (pe_fmt (pe_f F_quad_text (hr.mono (by decide)) passL (pa_cons (pe_fld (pv 0) rfl) pa_nil)))))), ?_⟩
  walk_at "rd"
  refine ⟨_, _, _, _, _, rfl, hp, T.c_Address4, T.na_Address4__number, rfl, ?_⟩
  walk_at "rd"
  refine ⟨n0, by omega, fun H1 s1 => ?_⟩
  refine Or.inl ⟨_, rfl, quadS_sz n0, q H1 s1⟩
theorem dots_join {ps : List (List Nat)} (h : ps ≠ []) (hp : ∀ p ∈ ps, 46 ∉ p) : dots (joinL [46] ps) = ps := by
  unfold dots
  rw [← sp1_spl]
  exact spl_join h hp
theorem numL_ok : ∀ v : Nat, v < 256 → partFault (numL v) = none := by decide +kernel
theorem parts_tl (n : Int) : (quadParts n).map tl = [24, 16, 8, 0].map fun s : Nat => numL (n / 2 ^ s % 256).toNat := by
  unfold quadParts
  rw [List.map_map]
  refine List.map_congr_left fun s _ => ?_
  exact numS_tl (part_b n s).1
theorem quad_dots (n : Int) : dots (tl (quadS n)) = [24, 16, 8, 0].map fun s : Nat => numL (n / 2 ^ s % 256).toNat := by
  rw [quadS_tl, parts_tl]
  refine dots_join (by simp) fun p hp => ?_
  obtain ⟨s, _, rfl⟩ := List.mem_map.mp hp
  exact numL_free (.inl (by decide))
theorem quad_good (n : Int) : quadFault (tl (quadS n)) = none := by
  unfold quadFault
  rw [quad_dots]
  rw [if_pos (by rfl)]
  refine first_of fun p hp => ?_
  obtain ⟨s, _, rfl⟩ := List.mem_map.mp hp
  have b := part_b n s
  exact numL_ok _ (by omega)
theorem quad_back {n : Int} (h0 : 0 ≤ n) (h1 : n < 4294967296) : (quadVal (dots (tl (quadS n))) : Int) = n := by
  rw [quad_dots]
  unfold quadVal
  simp only [List.map_cons, List.map_nil, List.foldl_cons, List.foldl_nil, numL_val]
  have e24 : (2 : Int) ^ 24 = 16777216 := by decide
  have e16 : (2 : Int) ^ 16 = 65536 := by decide
  have e8 : (2 : Int) ^ 8 = 256 := by decide
  have e0 : (2 : Int) ^ 0 = 1 := by decide
  rw [e24, e16, e8, e0]
  omega
abbrev s__law_quad : Stmt := (top 39)
abbrev N__law_quad : List Str := [("_law_number_here" : Str), ("_law_shift" : Str)]
theorem sc__law_quad : FnScope N__law_quad [("_law_number_here" : Str)] (defScope s__law_quad) := ⟨rfl, rfl, rfl, by decide +kernel, rfl, by decide +kernel, by decide +kernel⟩
def sp__law_quad (K : Frag) : Sp := fun vs H Q E => ∃ n : Int, vs = [.int n] ∧ 0 ≤ n ∧ n < 2 ^ 130 ∧ ∀ H', Same H H' → Q (.str (quadS n)) H'
theorem ok__law_quad (T : Tx K mg) : FnG P w K mg base 1 "_law_quad" (sp__law_quad K) := by
  refine ⟨fnr T.d__law_quad sc__law_quad (fun vs H Q E h => by obtain ⟨n, rfl, h0, h1, q⟩ := h; rfl) (fun _ _ _ _ _ _ us hl => match us, hl with | [_], _ => rfl) (fun cdv A outer s H vs Q E hr h => ?_), T.kp__law_quad, T.g__law_quad⟩
  have nd := sc__law_quad.nd
  have hu := hu_of hr
  obtain ⟨n, rfl, h0, h1, q⟩ := h
  refine ⟨_, PSs.nox (pss_one (ps_ret (pe_join pe_str (pe_lc (own := [("_law_shift", 1)]) rfl nd (pi_tup (pe_tup (pa_cons pe_int (pa_cons pe_int (pa_cons pe_int (pa_cons pe_int pa_nil)))))) (blkOk_by (own := [("_law_shift", 1)]) (N := N__law_quad) (sc := defScope s__law_quad) (by decide +kernel)) (fun _ _ _ _ _ => (pg_name (i := 1) nd rfl (Or.inl rfl))) (fun _ _ _ _ _ => pts_nil) (fun _ _ _ _ _ => (pe_callTy call_str_int (by rfl) T.f_str (by decide +kernel) (pa_cons (pe_op op_and (pe_op op_shr (pv 0) (pv 1)) pe_int) pa_nil))))))), ?_⟩
  refine ⟨⟨_, rfl⟩, ?_⟩
  refine ⟨lz, fun p np => ?_⟩
  refine ⟨p, rfl, ⟨_, SqT.of upd_same⟩, fun D nD => ?_⟩
  refine lc_mp ([24, 16, 8, 0] : List Nat) (fun s : Nat => V.int (s : Int)) (fun s : Nat => V.str (numS (n / 2 ^ s % 256))) (walk_tup (K := K) (a := p) (xs := ([24, 16, 8, 0] : List Nat).map fun s : Nat => V.int (s : Int))) rfl (by decide) yat_map nD (fun H' s' => SqT.of (s' _ _ upd_same)) ?_ ?_
  · intro c hc H1 s1 Qe k
    refine ⟨rfl, ?_⟩
    walk_at "rd"
    have nn : 0 ≤ n / 2 ^ ((c : Int)).toNat := Int.ediv_nonneg h0 (by have := pow_pos' ((c : Int)).toNat; omega)
    have ea := and255 nn
    refine ⟨?_, ?_⟩
    · rw [ea]; exact log_small (by omega) (by omega)
    · rw [ea]; exact k H1 (Same.refl _)
  · intro H1 s1 h1
    have s2 := (same_new (Same.refl H) np).trans s1
    refine ⟨_, _, quadParts n, rfl, rfl, Or.inl (SqL.of ?_), quadParts_sz h0, q _ s2⟩
    rw [h1]; rfl
theorem trip_ne {K : Frag} {H : Hp} {t1 t2 : Addr} {n : Int} {z : Str} (hz : PyData.strOk z = true) (h1 : H t1 = some (.tup [.int n, .str z, .str z])) (h2 : H t2 = some (.tup [.int n, .str z, .str z])) {Q : VK} (q : Q (.bl false) H) : rNeD K (.ref t1) (.ref t2) H Q := by
  have sh : SeqAt.shaped (.tuple [.int n, .str z, .str z]) = true := by
    unfold SeqAt.shaped
    simp [PyData.canLay0, PyData.canLayAll0, hz, PyData.depth, PyData.depthAll]
  refine ⟨.tuple [.int n, .str z, .str z], .tuple [.int n, .str z, .str z], .tup (SqT.of h1) (.cons (.int _) (.cons (.str _) (.cons (.str _) .nil))), .tup (SqT.of h2) (.cons (.int _) (.cons (.str _) (.cons (.str _) .nil))), sh, sh, ?_⟩
  rw [SeqAt.eqv_refl _ (SeqAt.canLay_of_shaped sh)]
  exact q
abbrev s_law : Stmt := (top 40)
abbrev N_law : List Str := [("_law_script" : Str), ("_law_k" : Str), ("_law_source_here" : Str), ("_law_number_here" : Str), ("_law_text" : Str), ("_law_one" : Str), ("_law_other" : Str)]
theorem sc_law : FnScope N_law [("_law_script" : Str)] (defScope s_law) := ⟨rfl, rfl, rfl, by decide +kernel, rfl, by decide +kernel, by decide +kernel⟩
def sp_law (K : Frag) : Sp := fun vs H Q E => ∃ (a : Addr) (ns : List Int), vs = [.ref a] ∧ SqL K H a (ns.map V.int) ∧ ns.length ≤ 63 ∧ ∀ H', Q (.bl true) H'
theorem ok_law (T : Tx K mg) : ∃ fd : FuncData, (∀ (s : Shared) (u : Value), BindsTo s fd ⟨[u], []⟩ [("_law_script", u)]) ∧ ∀ base : Heap, FnOk P w K mg base CX0 7 (He.ga K "law") fd ["_law_script"] (sp_law K) := by
  obtain ⟨fd, F⟩ := T.d_law
  have gl := T.g_law
  refine ⟨fd, fun s v => F.bindsA (ps := ["_law_script"]) (fun _ _ _ _ _ _ us hl => match us, hl with | [_], _ => rfl) s [v] rfl, fun base => F.ok (CX := CX0) sc_law (fun vs H Q E h => by obtain ⟨a, ns, rfl, hS, hlen, k⟩ := h; rfl) (fun cdv A outer s H vs Q E hr h => ?_)⟩
  have F__law_source := ok__law_source (P := P) (w := w) (base := base) T
  have F__law_number := ok__law_number (P := P) (w := w) (base := base) T
  have F__law_quad := ok__law_quad (P := P) (w := w) (base := base) T
  have F_Address4_int := ok_Address4_int (P := P) (w := w) (base := base) T
  have F_Address4___str__ := ok_Address4___str__ (P := P) (w := w) (base := base) T
  have F_Address4_full := ok_Address4_full (P := P) (w := w) (base := base) T
  have F_Address4_str := ok_Address4_str (P := P) (w := w) (base := base) T
  have F_Address4_Address4 := ok_Address4_Address4 (P := P) (w := w) (base := base) T
  have nd := sc_law.nd
  have hu := hu_of hr
  obtain ⟨a, ns, rfl, hS, hlen, k⟩ := h
  refine ⟨_, PSs.nox (pss_cons (ps_for PassesOwn.never rfl (pi_range1 (by rfl) T.f_range (pa_cons (pe_callB (call_max2 rfl) (by rfl) T.f_max (by decide +kernel) (pa_cons pe_int (pa_cons (pe_callB (call_min2 rfl) (by rfl) T.f_min (by decide +kernel) (pa_cons pe_int (pa_cons (pe_callB call_len_seq (by rfl) T.f_len (by decide +kernel) (pa_cons (pv 0) pa_nil)) pa_nil))) pa_nil))) pa_nil)) (pg_name (i := 1) nd rfl (Or.inl rfl))
        (pss_cons (ps_set (i := 2) nd rfl (Or.inl rfl) (pe_f F__law_source (hr.mono (by decide)) passL (pa_cons (pv 0) (pa_cons (pv 1) pa_nil))))
        (pss_cons (ps_set (i := 3) nd rfl (Or.inl rfl) (pe_f F__law_number (hr.mono (by decide)) passL (pa_cons (pv 2) (pa_cons pe_int pa_nil))))
        (pss_cons (ps_set (i := 4) nd rfl (Or.inl rfl) (pe_f F__law_quad (hr.mono (by decide)) passL (pa_cons (pv 3) pa_nil)))
        (pss_cons (ps_set (i := 5) nd rfl (Or.inl rfl) (pe_cl F_Address4_int (hr.mono (by decide)) passL (pa_cons (pv 3) pa_nil)))
        (pss_cons (ps_if (pt_cmpR (op_neD hr.units) (pe_tup (pa_cons (pe_fld (pv 5) rfl) (pa_cons (pe_callTy (call_strOwn T.m_Address4____str__ F_Address4___str__ (hr.mono (by decide)) passL) (by rfl) T.f_str (by decide +kernel) (pa_cons (pv 5) pa_nil)) (pa_cons (pe_pr (pv 5) T.c_Address4 T.p_Address4__full F_Address4_full (hr.mono (by decide))) pa_nil)))) (pe_tup (pa_cons (pv 3) (pa_cons (pv 4) (pa_cons (pv 4) pa_nil)))) (nomark _)) (pss_one (ps_ret pe_bl))
        pss_nil)
        (pss_cons (ps_for PassesOwn.never rfl (pi_list (pe_lst (pa_cons (pe_cl F_Address4_str (hr.mono (by decide)) passL (pa_cons (pv 4) pa_nil)) (pa_cons (pe_cl F_Address4_Address4 (hr.mono (by decide)) passL (pa_cons (pv 5) pa_nil)) (pa_cons (pe_cl F_Address4_str (hr.mono (by decide)) passL (pa_cons (pe_callTy (call_strOwn T.m_Address4____str__ F_Address4___str__ (hr.mono (by decide)) passL) (by rfl) T.f_str (by decide +kernel) (pa_cons (pe_cl F_Address4_str (hr.mono (by decide)) passL (pa_cons (pv 4) pa_nil)) pa_nil)) pa_nil)) pa_nil))))) (pg_name (i := 6) nd rfl (Or.inl rfl))
        (pss_one (ps_if (pt_cmpR (op_neD hr.units) (pe_tup (pa_cons (pe_fld (pv 6) rfl) (pa_cons (pe_callTy (call_strOwn T.m_Address4____str__ F_Address4___str__ (hr.mono (by decide)) passL) (by rfl) T.f_str (by decide +kernel) (pa_cons (pv 6) pa_nil)) (pa_cons (pe_pr (pv 6) T.c_Address4 T.p_Address4__full F_Address4_full (hr.mono (by decide))) pa_nil)))) (pe_tup (pa_cons (pv 3) (pa_cons (pv 4) (pa_cons (pv 4) pa_nil)))) (nomark _)) (pss_one (ps_ret pe_bl))
        pss_nil)))
        (pss_one (ps_if (PW.pt (pw_or (pt_val (pe_callB call_isi (by rfl) T.f_isinstance (by decide +kernel) (pa_cons (pe_fld (pe_cl F_Address4_str (hr.mono (by decide)) passL (pa_cons (pv 4) pa_nil)) rfl) (pa_cons (pe_bltn (v := .ty "bool") (u := .type "bool") rfl T.f_bool (by decide +kernel) rfl) pa_nil)))) (pw_or1 (pt_not (pt_val (pe_callB call_isi (by rfl) T.f_isinstance (by decide +kernel) (pa_cons (pe_fld (pe_cl F_Address4_str (hr.mono (by decide)) passL (pa_cons (pv 4) pa_nil)) rfl) (pa_cons (pe_bltn (v := .ty "int") (u := .type "int") rfl T.f_int (by decide +kernel) rfl) pa_nil)))))))) (pss_one (ps_ret pe_bl))
        pss_nil)))))))))
        (pss_one (ps_ret (pe_and (pe_cmpR op_eq (pe_callTy (call_strOwn T.m_Address4____str__ F_Address4___str__ (hr.mono (by decide)) passL) (by rfl) T.f_str (by decide +kernel) (pa_cons (pe_cl F_Address4_str (hr.mono (by decide)) passL (pa_cons pe_str pa_nil)) pa_nil)) pe_str (nomark _)) (pe_one (pe_cmpR op_eq (pe_fld (pe_cl F_Address4_str (hr.mono (by decide)) passL (pa_cons pe_str pa_nil)) rfl) pe_int (nomark _))))))), ?_⟩
  walk_at "rd"
  refine ⟨_, _, rfl, Or.inl hS, ?_⟩
  walk_at "rd"
  refine ⟨_, _, rfl, ?_⟩
  walk_at "rd"
  refine ⟨_, _, rfl, ?_⟩
  obtain ⟨N, hN, N1, N8⟩ := max_min8 ((ns.map V.int).length : Int) (by omega) 8 (by decide)
  rw [hN]
  walk_at "rd"
  refine ⟨by omega, by omega, for_range (n := N.toNat) (fun i σ H2 => ∃ v1 v2 v3 v4 v5 v6 : Option V, σ = [some (.ref a), v1, v2, v3, v4, v5, v6] ∧ Same H H2) ⟨none, none, none, none, none, none, rfl, Same.refl _⟩ ?_ ?_⟩
  · rintro i σ H2 hi ⟨v1, v2, v3, v4, v5, v6, rfl, s2⟩
    walk_at "rd"
    refine ⟨a, ns, _, rfl, s2.seq hS, hlen, by omega, by omega, fun p H3 x y s3 np hp => ?_⟩
    walk_at "rd"
    refine ⟨p, 32, rfl, .inl rfl, ⟨_, _, _, hp⟩, fun n H4 n0 n1 S4 B4 => ?_⟩
    have x32 := e32
    have n2 : n < 4294967296 := by omega
    have s4 : Same H H4 := but_same (s2.trans s3) B4 (s2.free np)
    walk_at "rd"
    refine ⟨n0, by omega, fun H5 s5 => ?_⟩
    walk_at "rd"
    refine ⟨n0, n2, fun q1 H6 s6 nq1 A1 => ?_⟩
    have AA := A1
    walk_at "rd"
    obtain ⟨a0, a1, dxq, obq⟩ := id AA
    refine ⟨_, _, _, _, _, rfl, obq, T.c_Address4, T.na_Address4__number, rfl, ?_⟩
    walk_at "rd"
    refine ⟨_, _, _, rfl, obq, _, _, rfl, AA, fun Ha sa => ⟨_, rfl, ?_⟩⟩
    walk_at "rd"
    refine ⟨_, _, _, rfl, sa _ _ obq, _, _, rfl, AA.same sa, fun Hb sb => ?_⟩
    walk_at "rd"
    refine ⟨lz, fun t1 nt1 => ?_⟩
    walk_at "rd"
    refine ⟨lz, fun t2 nt2 => ?_⟩
    refine trip_ne (quadS_ok n0) (same_new (Same.refl _) nt2 _ _ upd_same) upd_same ?_
    walk_at "rd"
    have zl := quadS_len n0
    have zg := quad_good n
    have zb := quad_back n0 n2
    refine ⟨_, n, rfl, by omega, zg, zb.symm, n2, fun o1 G1 e1 no1 O1 => ?_⟩
    walk_at "rd"
    refine ⟨_, n, rfl, A1.same (by walk_at "same"), fun o2 G2 e2 no2 O2 => ?_⟩
    walk_at "rd"
    refine ⟨_, n, rfl, by omega, zg, zb.symm, n2, fun o3 G3 e3 no3 O3 => ?_⟩
    walk_at "rd"
    obtain ⟨_, _, d3, ob3⟩ := id O3
    refine ⟨_, _, _, rfl, ob3, _, _, rfl, O3, fun G4 e4 => ⟨_, rfl, ?_⟩⟩
    walk_at "rd"
    refine ⟨_, n, rfl, by omega, zg, zb.symm, n2, fun o5 G5 e5 no5 O5 => ?_⟩
    walk_at "rd"
    refine ⟨lz, fun l nl => ?_⟩
    refine ⟨l, rfl, ⟨_, SqL.of upd_same⟩, for_list (K := K) (a := l) (xs := [.ref o1, .ref o2, .ref o5]) (fun j σ Hx => ∃ w6 w7 : Option V, σ = [some (.ref a), some (.int (0 + (i : Int))), some (.ref p), some (.int n), some (.str (quadS n)), some (.ref q1), w6] ∧ w6 = w7 ∧ Same (upd G5 l (.lst [.ref o1, .ref o2, .ref o5])) Hx)
      ⟨_, _, rfl, rfl, Same.refl _⟩ (fun j σ Hx _ h => by obtain ⟨_, _, _, _, sx⟩ := h; exact sx.seq (SqL.of upd_same)) ?_ ?_⟩
    · rintro j y σ Hx hj ⟨w6, w7, rfl, _, sx⟩
      obtain ⟨oq, rfl, OQ⟩ : ∃ oq, y = V.ref oq ∧ IsA4 K Hx oq n :=
        fa_cons (P := fun y => ∃ oq, y = V.ref oq ∧ IsA4 K Hx oq n) ⟨o1, rfl, O1.same (by walk_at "same")⟩ (fa_cons ⟨o2, rfl, O2.same (by walk_at "same")⟩ (fa_cons ⟨o5, rfl, O5.same (by walk_at "same")⟩ fa_nil)) y (List.mem_of_getElem? hj)
      have AA := OQ
      walk_at "rd"
      obtain ⟨a0, a1, dxq, obq⟩ := id AA
      refine ⟨_, _, _, _, _, rfl, obq, T.c_Address4, T.na_Address4__number, rfl, ?_⟩
      walk_at "rd"
      refine ⟨_, _, _, rfl, obq, _, _, rfl, AA, fun Ha sa => ⟨_, rfl, ?_⟩⟩
      walk_at "rd"
      refine ⟨_, _, _, rfl, sa _ _ obq, _, _, rfl, AA.same sa, fun Hb sb => ?_⟩
      walk_at "rd"
      refine ⟨lz, fun t1 nt1 => ?_⟩
      walk_at "rd"
      refine ⟨lz, fun t2 nt2 => ?_⟩
      refine trip_ne (quadS_ok n0) (same_new (Same.refl _) nt2 _ _ upd_same) upd_same ?_
      walk_at "rd"
      walk_at "same"
    · rintro σ Hx ⟨w6, w7, rfl, _, sx⟩
      walk_at "rd"
      refine ⟨_, n, rfl, by omega, zg, zb.symm, n2, fun o6 G6 e6 no6 O6 => ?_⟩
      obtain ⟨_, _, d6, ob6⟩ := id O6
      refine ⟨_, _, _, _, _, rfl, ob6, T.c_Address4, T.na_Address4__number, rfl, ?_⟩
      walk_at "rd"
      refine ⟨_, _, _, _, false, rfl, .ty _, .base (.int n), kit_ib, ?_⟩
      walk_at "rd"
      refine ⟨_, n, rfl, by omega, zg, zb.symm, n2, fun o7 G7 e7 no7 O7 => ?_⟩
      obtain ⟨_, _, d7, ob7⟩ := id O7
      refine ⟨_, _, _, _, _, rfl, ob7, T.c_Address4, T.na_Address4__number, rfl, ?_⟩
      walk_at "rd"
      refine ⟨_, _, _, _, true, rfl, .ty _, .base (.int n), kit_ii, ?_⟩
      walk_at "rd"
      exact ⟨_, _, _, _, _, _, rfl, by walk_at "same"⟩
  · rintro σ H2 ⟨v1, v2, v3, v4, v5, v6, rfl, s2⟩
    walk_at "rd"
    have z0 : quadFault (tl ("0.0.0.0" : Str)) = none := by decide +kernel
    have z1 : quadFault (tl ("255.255.255.255" : Str)) = none := by decide +kernel
    refine ⟨_, 0, rfl, lz, z0, by decide +kernel, by decide, fun o1 G1 e1 no1 O1 => ?_⟩
    walk_at "rd"
    obtain ⟨_, _, d1, ob1⟩ := id O1
    refine ⟨_, _, _, rfl, ob1, _, _, rfl, O1, fun G2 e2 => ⟨_, rfl, ?_⟩⟩
    walk_at "rd"
    have e0 : quadS 0 = ("0.0.0.0" : Str) := by decide +kernel
    rw [e0]
    walk_at "rd"
    refine ⟨_, 4294967295, rfl, lz, z1, by decide +kernel, by decide, fun o2 G3 e3 no2 O2 => ?_⟩
    obtain ⟨_, _, d2, ob2⟩ := id O2
    refine ⟨_, _, _, _, _, rfl, ob2, T.c_Address4, T.na_Address4__number, rfl, ?_⟩
    walk_at "rd"
    exact k _
end
def fn : List He5.DefA :=
  ([dG "_law_mix" (top 35),
   dG "_law_source" (top 36),
   dG "_law_draw" (top 37),
   dG "_law_number" (top 38),
   dG "part_fault" (top 10),
   dG "quad_fault" (top 11),
   dG "read_quad" (top 12),
   dG "quad_parts" (top 13),
   dG "quad_text" (top 14),
   dG "is_integer" (top 29)] : List He5.DefA) ++
  ([dG "is_from" (top 30),
   dG "number_of" (top 32),
   dM "Address4" "__init__" "Address4.__init__" (inClass (top 33) 2),
   dW "Address4" "property" "full" "Address4.full" (inClass (top 33) 6),
   dM "Address4" "__str__" "Address4.__str__" (inClass (top 33) 12),
   dG "_law_quad" (top 39),
   dG "law" (top 40)] : List He5.DefA)
def fb : List (Frag → Bool) :=
  ([fun K => keepIn K (.ref (He.ga K "_law_mix")),
   fun K => (He.Fa.glo "_law_mix").ok K,
   fun K => (He.Fa.free "int").ok K,
   fun K => keepIn K (.ref (He.ga K "_law_source")),
   fun K => (He.Fa.glo "_law_source").ok K,
   fun K => (He.Fa.free "len").ok K,
   fun K => keepIn K (.ref (He.ga K "_law_draw")),
   fun K => (He.Fa.glo "_law_draw").ok K,
   fun K => keepIn K (.ref (He.ga K "_law_number")),
   fun K => (He.Fa.glo "_law_number").ok K] : List (Frag → Bool)) ++
  ([fun K => (He.Fa.free "min").ok K,
   fun K => (He.Fa.free "range").ok K,
   fun K => keepIn K (.ref (He.ga K "part_fault")),
   fun K => (He.Fa.glo "part_fault").ok K,
   fun K => (He.Fa.free "all").ok K,
   fun K => (He.Fa.str "DIGITS" "0123456789").ok K,
   fun K => keepIn K (.ref (He.ga K "quad_fault")),
   fun K => (He.Fa.glo "quad_fault").ok K,
   fun K => keepIn K (.ref (He.ga K "read_quad")),
   fun K => (He.Fa.glo "read_quad").ok K] : List (Frag → Bool)) ++
  ([fun K => keepIn K (.ref (He.ga K "quad_parts")),
   fun K => (He.Fa.glo "quad_parts").ok K,
   fun K => keepIn K (.ref (He.ga K "quad_text")),
   fun K => (He.Fa.glo "quad_text").ok K,
   fun K => keepIn K (.ref (He.ga K "is_integer")),
   fun K => (He.Fa.glo "is_integer").ok K,
   fun K => (He.Fa.free "isinstance").ok K,
   fun K => (He.Fa.free "bool").ok K,
   fun K => keepIn K (.ref (He.ga K "is_from")),
   fun K => (He.Fa.glo "is_from").ok K] : List (Frag → Bool)) ++
  ([fun K => keepIn K (.ref (He.ga K "number_of")),
   fun K => (He.Fa.glo "number_of").ok K,
   fun K => (He.Fa.free "str").ok K,
   fun K => (He.Fa.int "WIDTH4" 32).ok K,
   fun K => (He.Fa.glo "Address4").ok K,
   fun K => decide (kitOne K (.type "int") (.ref (He.ga K "Address4")) = some false),
   fun K => (He.Fa.cls "Address4").ok K,
   fun K => (He.Fa.noat "Address4" "number").ok K,
   fun K => decide (kitOne K (.type "str") (.ref (He.ga K "Address4")) = some false),
   fun K => tyB K "Address4"] : List (Frag → Bool)) ++
  ([fun K => decide (kitOne K (.ref (He.ga K "Address4")) (.ref (He.ga K "Address4")) = some true),
   fun K => (He.Fa.mkr "Address4").ok K,
   fun K => keepIn K (.ref (He.ga K "_law_quad")),
   fun K => (He.Fa.glo "_law_quad").ok K,
   fun K => (He.Fa.glo "law").ok K,
   fun K => (He.Fa.free "max").ok K,
   fun K => (He.Fa.meth "Address4" "__str__").ok K,
   fun K => propB K "Address4" "full"] : List (Frag → Bool))
theorem tx_of {K : Frag} {h : Heap} {mg : Str → Option Value} (X : K.In h) (G : h.Ns mainGlobals mg) (c : SaysM fb fn K) : Tx K mg where
  d__law_mix := c.def_ 0
  kp__law_mix := c.fact 0
  g__law_mix := He.glo_ok X G (c.fact 1)
  f_int := He.free_ok X G (c.fact 2)
  d__law_source := c.def_ 1
  kp__law_source := c.fact 3
  g__law_source := He.glo_ok X G (c.fact 4)
  f_len := He.free_ok X G (c.fact 5)
  d__law_draw := c.def_ 2
  kp__law_draw := c.fact 6
  g__law_draw := He.glo_ok X G (c.fact 7)
  d__law_number := c.def_ 3
  kp__law_number := c.fact 8
  g__law_number := He.glo_ok X G (c.fact 9)
  f_min := He.free_ok X G (c.fact 10)
  f_range := He.free_ok X G (c.fact 11)
  d_part_fault := c.def_ 4
  kp_part_fault := c.fact 12
  g_part_fault := He.glo_ok X G (c.fact 13)
  f_all := He.free_ok X G (c.fact 14)
  s_DIGITS := He.str_ok X G (c.fact 15)
  d_quad_fault := c.def_ 5
  kp_quad_fault := c.fact 16
  g_quad_fault := He.glo_ok X G (c.fact 17)
  d_read_quad := c.def_ 6
  kp_read_quad := c.fact 18
  g_read_quad := He.glo_ok X G (c.fact 19)
  d_quad_parts := c.def_ 7
  kp_quad_parts := c.fact 20
  g_quad_parts := He.glo_ok X G (c.fact 21)
  d_quad_text := c.def_ 8
  kp_quad_text := c.fact 22
  g_quad_text := He.glo_ok X G (c.fact 23)
  d_is_integer := c.def_ 9
  kp_is_integer := c.fact 24
  g_is_integer := He.glo_ok X G (c.fact 25)
  f_isinstance := He.free_ok X G (c.fact 26)
  f_bool := He.free_ok X G (c.fact 27)
  d_is_from := c.def_ 10
  kp_is_from := c.fact 28
  g_is_from := He.glo_ok X G (c.fact 29)
  d_number_of := c.def_ 11
  kp_number_of := c.fact 30
  g_number_of := He.glo_ok X G (c.fact 31)
  f_str := He.free_ok X G (c.fact 32)
  i_WIDTH4 := He.int_ok X G (c.fact 33)
  dm_Address4____init__ := c.def_ 12
  g_Address4 := He.glo_ok X G (c.fact 34)
  ki_int_Address4 := of_decide_eq_true (c.fact 35)
  c_Address4 := He.cls_ok (c.fact 36)
  na_Address4__number := He.noat_ok (c.fact 37)
  ki_str_Address4 := of_decide_eq_true (c.fact 38)
  ty_Address4 := tyB_ok (c.fact 39)
  ki_Address4_Address4 := of_decide_eq_true (c.fact 40)
  mk_Address4 := He.mkr_ok (c.fact 41)
  dm_Address4__full := c.def_ 13
  dm_Address4____str__ := c.def_ 14
  d__law_quad := c.def_ 15
  kp__law_quad := c.fact 42
  g__law_quad := He.glo_ok X G (c.fact 43)
  d_law := c.def_ 16
  g_law := He.glo_ok X G (c.fact 44)
  f_max := He.free_ok X G (c.fact 45)
  m_Address4____str__ := He.meth_ok (c.fact 46)
  p_Address4__full := propB_ok (c.fact 47)
abbrev R : PySem.W.OpenRow := PySem.W.OpenLaw.row PySem.Challenge.rw_addressnets_k01_version_4_texts
abbrev hk : PySem.W.Hook := hookM 6 fb fn
def ob (s : PySem.W.SharedT) : He.AlD := obsMG 6 fb fn (HandSHeadRun.getT s)
theorem ob_eq (s : PySem.W.SharedT) : ob s = hk.obs s.abs := obsMG_eq (HandSHeadRun.getT_eq s)
def loose : List Str :=
  ([("_wall" : Str),
   ("NetError" : Str),
   ("BadKind" : Str),
   ("BadNumber" : Str),
   ("BadText" : Str),
   ("BadBytes" : Str),
   ("Mixed" : Str),
   ("DIGITS" : Str),
   ("part_fault" : Str),
   ("quad_fault" : Str),
   ("read_quad" : Str),
   ("quad_parts" : Str)] : List Str) ++
  ([("quad_text" : Str),
   ("HEX" : Str),
   ("quad_place" : Str),
   ("has_wrong_quad" : Str),
   ("has_wrong_gaps" : Str),
   ("has_wrong_ends" : Str),
   ("hex_groups" : Str),
   ("parts_of" : Str),
   ("has_wrong_count" : Str),
   ("groups_fault" : Str),
   ("hex_number" : Str),
   ("read_groups" : Str)] : List Str) ++
  ([("WIDTH4" : Str),
   ("is_integer" : Str),
   ("is_from" : Str),
   ("number_of" : Str),
   ("Address4" : Str),
   ("_law_mix" : Str),
   ("_law_source" : Str),
   ("_law_draw" : Str),
   ("_law_number" : Str),
   ("_law_quad" : Str)] : List Str)
theorem run (w : World) : HandSHeadRun.RunEq R (PySem.W.view R.prog [40]) hk ob 20000 loose w := by
  intro os
  kernel_rfl
end An
open PySem PySem.W PySem.Calls PyProof.Rows
theorem PySem.Challenge.cw_addressnets_k01_version_4_texts_holds : PySem.Challenge.rw_addressnets_k01_version_4_texts.Holds := by
  w_on; o_law
  refine HandSHeadRun.head_any (r := OpenLaw.row PySem.Challenge.rw_addressnets_k01_version_4_texts) (q := view (OpenLaw.row PySem.Challenge.rw_addressnets_k01_version_4_texts).prog [40]) (H := An.hk) (ob := An.ob) (M := 20000) (loose := An.loose) (d := HandSHeadRun.topDef (OpenLaw.row PySem.Challenge.rw_addressnets_k01_version_4_texts).prog 40) (kwd := []) An.ob_eq
    (by kernel_rfl) (fun s => by kernel_rfl) An.run (by kernel_rfl) (by kernel_rfl) (by kernel_rfl) (by rfl) (by first | assumption | decide +kernel) (by decide +kernel) ⟨rfl, rfl, rfl, rfl, rfl, by decide +kernel⟩ ?hw ?hc
  case hw => w_witness2
  case hc =>
    refine L2.walk_ofE (l := PySem.Challenge.rw_addressnets_k01_version_4_texts) (n := 63) (k := 7) (x := "_law_script") (CX := L2.CX0) rfl (by decide) (by kernel_rfl) ⟨rfl, by decide, by decide⟩ ?F (fun _ _ _ _ z => z)
    intro w mg fa h Y G hmg0
    obtain ⟨K, KX, c⟩ := Y
    have T := An.tx_of KX G c
    have hmg : mg ("law" : PySem.Str) = some (.ref fa) := by
      have e : (HandSHeadRun.topDef (OpenLaw.row PySem.Challenge.rw_addressnets_k01_version_4_texts).prog 40).name = ("law" : PySem.Str) := by kernel_rfl
      rw [← e]
      exact hmg0
    have e := hmg.symm.trans T.g_law
    cases e
    obtain ⟨fd, hb, hF⟩ := An.ok_law (P := (PySem.Challenge.rw_addressnets_k01_version_4_texts).prog) (w := w) T
    exact ⟨K, fd, An.sp_law K, KX, hb, fun H a ns hl _ hS => ⟨a, ns, rfl, hS, hl, fun _ => rfl⟩, fun base _ _ => hF base⟩
#print axioms PySem.Challenge.cw_addressnets_k01_version_4_texts_holds
