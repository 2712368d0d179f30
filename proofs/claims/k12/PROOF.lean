import PyProof.Rows.All
import Wide.All
import OpenK.AllK
import Wide.FinOn
import KE.RegKCallOwn
import KE.KFmtOwn
import HandS.ForMost
import HandS.Exc
import HandS.TryOnly
import HandS.ExcOwn
import HandS.WordsExc
import HandS.Defaults
import HandS.Flow
import HandS.Wide
import HandS.WideBits
import HandS.Star
import HandS.Property
import HandS.ClsMeth
import HandS.SlotsOwn
import HandS.IsInst
import HandS.FStr
import HandS.StrMore
import HandS.Evl
import HandS.Walk
import HandS.Style
import HandS.Head0
import HandS.Head1
import HandS.Head2
import HandS.HeadEnd
import HandS.HeadHook1
import HandS.HeadHook2
import HandS.HeadHook3
import HandS.HeadNt
import PySem.Challenge.RW_addressnets_k12_questions_of_version_4
set_option Elab.async false
set_option linter.all false
set_option maxRecDepth 100000
set_option maxHeartbeats 4000000
set_option pp.deepTerms false
set_option pp.deepTerms.threshold 5
set_option pp.maxSteps 1500
namespace An
open PySem PySem.W PySem.Spec PyProof.Rows L2 TL Bits
/-! ### a head's hook over any list of tests and any list of defs -/
def obsM (fb : List (Frag → Bool)) (fn : List He5.DefA) (K : Frag) : He.AlD := ((fb.all fun f => f K) && fn.all fun d => d.ok K, fn.map fun d => He5.fnA K (d.at_ K))
def SaysM (fb : List (Frag → Bool)) (fn : List He5.DefA) (K : Frag) : Prop := obsM fb fn K = He5.valA fn
def obsMG (n : Nat) (fb : List (Frag → Bool)) (fn : List He5.DefA) (g : Addr → Option Obj) : He.AlD := obsM fb fn (He.frG g (He5.asA g n))
def hookM (n : Nat) (fb : List (Frag → Bool)) (fn : List He5.DefA) : PySem.W.Hook where
  α := He.AlD
  obs := fun s => obsMG n fb fn s.heap.get?
  val := fun _ => He5.valA fn
  says := fun _ h => ∃ K : Frag, K.In h ∧ SaysM fb fn K
  of := fun _ _ e => ⟨_, He.frG_in, e⟩
  keeps := fun _ _ _ ⟨K, hK, c⟩ k => ⟨K, Frag.In.keeps hK k, c⟩
theorem obsMG_eq {n : Nat} {fb : List (Frag → Bool)} {fn : List He5.DefA} {g : Addr → Option Obj} {s : Shared} (h : ∀ a, g a = s.heap.get? a) : obsMG n fb fn g = (hookM n fb fn).obs s := by
  have e : g = s.heap.get? := funext h
  rw [e] <;> rfl
section
variable {fb : List (Frag → Bool)} {fn : List He5.DefA} {K : Frag}
theorem SaysM.fact (c : SaysM fb fn K) (i : Nat) {f : Frag → Bool} (h : fb[i]? = some f := by rfl) : f K = true := by
  have c1 := (He.ba (show ((fb.all fun f => f K) && fn.all fun d => d.ok K) = true from congrArg (fun z : He.AlD => z.1) c)).1
  exact List.all_eq_true.mp c1 f (List.mem_of_getElem? h)
theorem SaysM.def_ (c : SaysM fb fn K) (i : Nat) {d : He5.DefA} (h : fn[i]? = some d := by rfl) : ∃ fd, L2.FunD K d.name d.qual d.params d.body d.scope (d.dvs K) (d.kws K) (d.at_ K) fd := by
  have c2 := (He.ba (show ((fb.all fun f => f K) && fn.all fun d => d.ok K) = true from congrArg (fun z : He.AlD => z.1) c)).2
  have e : fn.map (fun d => He5.fnA K (d.at_ K)) = fn.map He5.DefA.val := congrArg (fun z : He.AlD => z.2) c
  have e2 : (fn.map fun d => He5.fnA K (d.at_ K))[i]? = (fn.map He5.DefA.val)[i]? := by rw [e]
  rw [List.getElem?_map, List.getElem?_map, h] at e2
  exact He5.DefA.funD (Option.some.inj e2) (List.all_eq_true.mp c2 d (List.mem_of_getElem? h))
end
def dG (x : Str) (st : Stmt) : He5.DefA := ⟨fun K => He.ga K x, x, x, defArgs st, defBody st, defScope st, [], []⟩
def dM (c m q : Str) (st : Stmt) : He5.DefA := ⟨fun K => He.ma K (He.ga K c) m, m, q, defArgs st, defBody st, defScope st, [], []⟩
/-- the getter of a property, the def of a classmethod -/
def wfA (K : Frag) (c : Str) (T : String) (m : Str) : Addr := He5.wf K (He.ga K c) T m
def dW (c : Str) (T : String) (m q : Str) (st : Stmt) : He5.DefA := ⟨fun K => wfA K c T m, m, q, defArgs st, defBody st, defScope st, [], []⟩
/-! ### a def of the text: no defaults -/
abbrev FnS (K : Frag) (x q : Str) (st : Stmt) (f : Addr) : Prop := ∃ fd, FunD K x q (defArgs st) (defBody st) (defScope st) [] [] f fd
abbrev Wc (P : Program) (w : World) (K : Frag) (mg : Str → Option Value) (base : Heap) (k : Nat) (f : Addr) (sp : Sp) : Prop := FnR P w K mg base (L2.CX P w) k f sp
section
variable {P : Program} {w : World} {K : Frag} {mg : Str → Option Value} {base : Heap}
theorem fnr {x q : Str} {st : Stmt} {f : Addr} {N ps : List Str} {k : Nat} {sp : Sp} (F : FnS K x q st f) (S : FnScope N ps (defScope st)) (len : ∀ vs H Q E, sp vs H Q E → vs.length = ps.length)
    (hb : ∀ (kV doc pm : Value) (an : Option Addr) (cdv ct : Value) (us : List Value), us.length = ps.length → bindArgs (PySem.W.fnOf x q (defArgs st) (defBody st) (defScope st) .none kV doc pm an cdv ct) ⟨us, []⟩ = pure (ps.zip us))
    (hbody : ∀ (cdv : Value) (A : Around) (outer : List Env) (s : Shared) (H : Hp) (vs : List V) (Q : VK) (E : XK), Room k (A.deeper (envOfC q (defScope st) s.heap.objs.size f cdv)) → sp vs H Q E →
      ∃ t, PSs (cxOf (L2.CX P w) P w K mg base N q (defScope st) f cdv A outer s H E) (defBody st) t ∧ t { nx := fun _ H' => Q .non H', rt := Q } (start N vs) H) : Wc P w K mg base (k + 1) f sp := by
  obtain ⟨fd, F⟩ := F
  have G := (F.ok (CX := L2.CX P w) (P := P) (w := w) (mg := mg) (base := base) S len hbody).raw (F.bindsN hb) .nil
  exact G.imp fun vs H Q E h => by rw [List.append_nil]; exact h
theorem Wc.or {k : Nat} {f : Addr} {sp sp' : Sp} (F : Wc P w K mg base k f sp) (G : Wc P w K mg base k f sp') : Wc P w K mg base k f (fun vs H Q E => sp vs H Q E ∨ sp' vs H Q E) :=
  fun A outer s H us vs Q E hr e0 r hs => hs.elim (F A outer s H us vs Q E hr e0 r) (G A outer s H us vs Q E hr e0 r)
end
/-- a def of the module, by its name -/
structure FnG (P : Program) (w : World) (K : Frag) (mg : Str → Option Value) (base : Heap) (k : Nat) (x : Str) (sp : Sp) : Prop where
  ok : Wc P w K mg base k (He.ga K x) sp
  kp : PySem.W.keepIn K (.ref (He.ga K x)) = true
  gl : mg x = some (.ref (He.ga K x))
section
variable {X : Cx} {k : Nat} {f C : Addr} {sp : Sp} {E : XK} {x m : Str} {p pos apos : Pos} {e o : Expr} {es : List Expr} {ta : TE} {t : TA}
def tF (sp : Sp) (E : XK) (t : TA) : TE := fun σ H Q => t σ H fun vs H1 => sp vs H1 Q E
theorem pe_f (F : FnG X.prog X.w X.K X.mg X.base k x sp) (hr : Room k X.A) (hx : Passes (L2.CX X.prog X.w) X E)
    (ha : PA X (e :: es) t) (hg : Gl X x := by rfl) (hdb : (x == ("__debug__" : Str)) = false := by decide) (he : starEach (e :: es) X.env = (false, eval e X.env) :: starEach es X.env := by rfl) (hpl : (backTo pos (starEach es X.env)).any (·.1) = false := by rfl) :
    PE X (.Call (.Name x p) (e :: es) [] pos) (tF sp E t) := by
  refine ⟨fun pins s σ H Q I h => ?_⟩
  refine wpAny_Call_Name_kw (ld_glob I hg F.gl ?_ hdb)
  refine PySem.W.callWith_K (h₀ := X.base) I.ok.mod.kin F.kp (thn (ha.run pos pins s σ H _ I h) fun us s1 ⟨vs, H1, I1, r, q⟩ => ⟨I1.kIn, ?_⟩) he hpl
  exact wpAny_call (run_fnR F.ok hr hx I1 r q)
theorem pe_never {e : Expr} : PE X e (fun _ _ _ => False) := ⟨fun _ _ _ _ _ _ h => h.elim⟩
theorem pss_never {l : List Stmt} : PSs X l (fun _ _ _ => False) := ⟨fun _ _ _ _ _ _ h => h.elim⟩
theorem pt_never {e : Expr} : PT X e (fun _ _ _ => False) := ⟨fun _ _ _ _ _ _ h => h.elim⟩
/-- a module's constant -/
theorem pe_gi {i : Int} (hm : ∃ t, X.mg x = some (.int i t)) (hg : Gl X x := by rfl) (hd : (x == ("__debug__" : Str)) = false := by decide) : PE X (.Name x pos) (tC (.int i)) := by
  obtain ⟨t, hm⟩ := hm
  exact pe_glob hg hm ⟨_, rfl⟩ hd
theorem pe_gs {z : Str} (hm : ∃ t, X.mg x = some (.str z t)) (hg : Gl X x := by rfl) (hd : (x == ("__debug__" : Str)) = false := by decide) : PE X (.Name x pos) (tC (.str z)) := by
  obtain ⟨t, hm⟩ := hm
  exact pe_glob hg hm ⟨_, rfl⟩ hd
end
/-! ### the built-in names -/
theorem bb_isinstance : bootBuiltins "isinstance" = some (.builtin "isinstance") := by decide +kernel
theorem bb_len : bootBuiltins "len" = some (.builtin "len") := by decide +kernel
theorem bb_max : bootBuiltins "max" = some (.builtin "max") := by decide +kernel
theorem bb_min : bootBuiltins "min" = some (.builtin "min") := by decide +kernel
theorem bb_all : bootBuiltins "all" = some (.builtin "all") := by decide +kernel
theorem bb_any : bootBuiltins "any" = some (.builtin "any") := by decide +kernel
theorem bb_sum : bootBuiltins "sum" = some (.builtin "sum") := by decide +kernel
theorem bb_sorted : bootBuiltins "sorted" = some (.builtin "sorted") := by decide +kernel
theorem bb_abs : bootBuiltins "abs" = some (.builtin "abs") := by decide +kernel
theorem bb_repr : bootBuiltins "repr" = some (.builtin "repr") := by decide +kernel
theorem bb_next : bootBuiltins "next" = some (.builtin "next") := by decide +kernel
theorem bb_ord : bootBuiltins "ord" = some (.builtin "ord") := by decide +kernel
theorem bb_chr : bootBuiltins "chr" = some (.builtin "chr") := by decide +kernel
theorem bb_divmod : bootBuiltins "divmod" = some (.builtin "divmod") := by decide +kernel
theorem bb_hash : bootBuiltins "hash" = some (.builtin "hash") := by decide +kernel
theorem bb_int : bootBuiltins "int" = some (.type "int") := by decide +kernel
theorem bb_str : bootBuiltins "str" = some (.type "str") := by decide +kernel
theorem bb_bool : bootBuiltins "bool" = some (.type "bool") := by decide +kernel
theorem bb_bytes : bootBuiltins "bytes" = some (.type "bytes") := by decide +kernel
theorem bb_list : bootBuiltins "list" = some (.type "list") := by decide +kernel
theorem bb_tuple : bootBuiltins "tuple" = some (.type "tuple") := by decide +kernel
theorem bb_dict : bootBuiltins "dict" = some (.type "dict") := by decide +kernel
theorem bb_set : bootBuiltins "set" = some (.type "set") := by decide +kernel
theorem bb_range : bootBuiltins "range" = some (.type "range") := by decide +kernel
theorem bb_enumerate : bootBuiltins "enumerate" = some (.type "enumerate") := by decide +kernel
theorem bb_zip : bootBuiltins "zip" = some (.type "zip") := by decide +kernel
theorem bb_object : bootBuiltins "object" = some (.type "object") := by decide +kernel
theorem bb_reversed : bootBuiltins "reversed" = some (.type "reversed") := by decide +kernel
end An
namespace An
open PySem PySem.W PySem.Spec PyProof.Rows L2 TL Bits
section
variable {X : Cx} {k : Nat} {C p g f : Addr} {sp : Sp} {E : XK} {x m : Str} {pos apos : Pos} {e o : Expr} {es : List Expr} {ta : TE} {t : TA}
/-! ### a property, by its getter's promise -/
def tPr (C : Addr) (sp : Sp) (ta : TE) : TE := fun σ H Q => ta σ H fun x H1 => ∃ a dx fs, x = .ref a ∧ H1 a = some (.ins C dx fs) ∧ sp [.ref a] H1 Q E0
theorem pe_pr (he : PE X e ta) (c : Cls X.K C) (hp : PropOf X.K C m p g) (F : Wc X.prog X.w X.K X.mg X.base k g sp) (hr : Room (k + 1) X.A) (hab : attributeBase e m X.env (eval e X.env) = eval e X.env := by rfl) :
    PE X (.Attribute e m pos) (tPr C sp ta) := by
  refine ⟨fun pins s σ H Q I h => attr_of hab (thn (he.run pins s σ H _ I h) fun u s1 hh => ?_)⟩
  obtain ⟨z, H1, I1, rz, a, dx, fs, rfl, ea, q⟩ := hh
  obtain rfl : u = Value.ref a := rz
  obtain ⟨mA, O, _⟩ := ins_get I1.hok ea
  obtain ⟨od, J, _⟩ := O.look
  obtain ⟨rest, hrec⟩ := hp.rec_
  have hc : (clsIn X.K C).isSome = true := by
    obtain ⟨cd, hc, _⟩ := any_some c.hd
    rw [hc] <;> rfl
  have I2 := I1.tok (s1.toks + 1)
  refine get_bind I1.kIn J (plainGet_of (c.get m)).1 (findObj_data hc hp.at_ hp.get hp.tak) (plainGet_of (c.get m)).2 (wpAny_call (prop_get (s := { s1 with toks := s1.toks + 1 }) I1.kIn hrec ?_))
  refine codeAny_mono (F X.A.in1 X.stack { s1 with toks := s1.toks + 1 } H1 [.ref a] [.ref a] Q E0 hr.in1 I2.env0.in1 (.cons rfl .nil) q) fun r s' hq => ?_
  match r, hq with
  | .error er, hq =>
    obtain ⟨_, _, _, _, _, _, _, _, _, _, _, _, z⟩ := (show L2.CX X.prog X.w X.stack H1 _ E0 er s' from hq)
    exact z.elim
  | .ok (.ret u), hq =>
    obtain ⟨v, H', I3, rv, q3⟩ := I2.after hq
    show wpAny _ _ (handedOut u) _ _ _
    rw [handedOut_of (handed_of rv)]
    exact wpAny_pure ⟨v, H', I3, rv, q3⟩
/-! ### o.m() by a promise -/
def tM0R (C : Addr) (m : Str) (sp : Sp) (E : XK) (ta : TE) : TE := fun σ H Q => ta σ H fun x H1 => ∃ a dx fs, x = .ref a ∧ H1 a = some (.ins C dx fs) ∧ fs.lookup m = none ∧ sp [x] H1 Q E
theorem pe_mt0R {pl : Sem Bool} (he : PE X o ta) (c : Cls X.K C) (hm : Meth X.K C m f) (F : Wc X.prog X.w X.K X.mg X.base k f sp) (hr : Room k X.A) (hx : Passes (L2.CX X.prog X.w) X E)
    (ht : eval (.Call (.Attribute o m apos) [] [] pos) X.env = (do
      let ov ← eval o X.env
      standAt apos.atName
      let (f, first) ← holding [ov] (getMethod ov m pl)
      callWith pos f first (backTo pos (starEach [] X.env)) (backToKw pos (keywordEach [] X.env))) := by rfl) :
    PE X (.Call (.Attribute o m apos) [] [] pos) (tM0R C m sp E ta) := by
  refine ⟨fun pins s σ H Q I h => methodCall_KW (pl := pl) (thn (he.run pins s σ H _ I h) fun u s1 hh => ?_) ht⟩
  obtain ⟨z, H1, I1, rz, a, dx, fs, rfl, ea, l, q⟩ := hh
  obtain rfl : u = Value.ref a := rz
  exact getmeth_ok I1 ea c hm l (callWith_K0 (first := [.ref a]) I1.kIn hm.kp (wpAny_call (run_fnR (us := [.ref a]) (vs := [.ref a]) F hr hx I1 (.cons rfl .nil) q)))
/-! ### str(o) by an own __str__ -/
def rStrOwn (C : Addr) (sp : Sp) (E : XK) : List V → Hp → VK → Prop := fun xs H Q => ∃ a dx fs, xs = [V.ref a] ∧ H a = some (.ins C dx fs) ∧ sp [.ref a] H (fun z H' => ∃ y, z = .str y ∧ Q z H') E
theorem call_strOwn (hm : Meth X.K C "__str__" g) (F : Wc X.prog X.w X.K X.mg X.base k g sp) (hr : Room (k + 2) X.A) (hx : Passes (L2.CX X.prog X.w) X E) : CallR X (.type "str") (rStrOwn C sp E) := by
  intro pins s σ H xs us Q I r h
  obtain ⟨a, dx, fs, rfl, ea, q⟩ := h
  obtain ⟨u, rfl, ru⟩ := r.one
  cases (show u = Value.ref a from ru)
  obtain ⟨mA, O, _⟩ := ins_get I.hok ea
  obtain ⟨od, J, _⟩ := O.look
  have hr2 : Room k X.A.in1.in1 := (show Room (k + 1) X.A.in1 from Room.in1 hr).in1
  refine kso_call hr2.units0 I.kIn J hm.at_ hm.fn (wpAny_mono (wpAny_call (SlX.run_at (us := [.ref a]) (ws := [.ref a]) F hr2 I.env0.in1.in1 hx I (.cons rfl .nil) q)) (fun w s' z => ?_) fun _ _ x => x)
  obtain ⟨z', H', I', rz, y, ey, qz⟩ := z
  subst ey
  obtain ⟨t, e⟩ := (show ∃ t, w = Value.str y t from rz)
  cases e
  exact ⟨.str y, H', I', ⟨t, rfl⟩, qz⟩
end
/-! ### xs + ys of any two lists that are read -/
section
variable {X : Cx}
def rCatL (K : Frag) : R2 := fun x y H Q => ∃ l b xs zs, x = .ref l ∧ y = .ref b ∧ SqL K H l xs ∧ SqL K H b zs ∧ xs.length + zs.length ≤ sizeLine ∧ ∀ p, H p = none → Q (.ref p) (upd H p (.lst (xs ++ zs)))
theorem op_catL : OpR X (binaryOp .Add) (rCatL X.K) := by
  intro pins s σ H x y v u Q I rx ry h
  obtain ⟨l, b, xs, zs, rfl, rfl, h1, h2, hz, q⟩ := h
  cases rx; cases ry
  obtain ⟨i1, r1, p1, _⟩ := I.list h1
  obtain ⟨i2, r2, p2, _⟩ := I.list h2
  obtain ⟨⟨c1, d1, t1, l1⟩, n1, e1, a1, b1, g1⟩ := p1
  obtain ⟨⟨c2, d2, t2, l2⟩, n2, e2, a2, b2, g2⟩ := p2
  dsimp only at a1 b1 g1 a2 b2 g2
  subst a1 b1 g1 a2 b2 g2
  have z1 := r1.length
  have z2 := r2.length
  refine concat_meets ⟨_, e1, rfl⟩ ⟨_, e2, rfl⟩ noFill_list_add seq_list_add PySem.F.slot_list_add PySem.F.entry_list_add (PySem.F.args_list_add_2 _ _) (list_addW l b i1.toArray i2.toArray n1 n2 none none l1 l2 (by rw [List.size_toArray, List.size_toArray]; omega)) ⟨e1, e2, ?_⟩
  have ea : i1.toArray ++ i2.toArray = (i1 ++ i2).toArray := by simp
  rw [ea]
  exact ⟨.ref _, _, I.lnew (t' := s.toks) (r1.append r2) (by rw [List.length_append]; omega), rfl, q _ I.fresh⟩
end
/-! ### passing on what a callee raises -/
theorem lz {a b : Nat} (h : Nat.ble a b = true := by rfl) : a ≤ b := Nat.le_of_ble_eq_true h
theorem upd_eq {H : Hp} {a : Addr} {o : HO} : upd H a o a = some o := if_pos rfl
theorem same_new {H H' : Hp} {p : Addr} {o : HO} (e : Same H H') (hp : H' p = none) : Same H (upd H' p o) := fun b u h => by
  rw [upd_ne (ne_of_none (e b u h) hp)]
  exact e b u h
/-- a property of a class -/
def propB (K : Frag) (c m : Str) : Bool := He.eqO (findIn K (.ref (He.ga K c)) m) (some (some (.ref (He.ma K (He.ga K c) m)))) &&
  (He.eqO (specialIn K (.ref (He.ma K (He.ga K c) m)) "__get__") (some (some (.builtin "property.__get__"))) && (decide (takesIn K (.ref (He.ma K (He.ga K c) m)) = some true) &&
  (match recIn K (He.ma K (He.ga K c) m) "property" with
    | some (.ref _ :: _) => true
    | _ => false)))
theorem propB_ok {K : Frag} {c m : Str} (h : propB K c m = true) : PropOf K (He.ga K c) m (He.ma K (He.ga K c) m) (wfA K c "property" m) := by
  obtain ⟨h1, h⟩ := He.ba h
  obtain ⟨h2, h⟩ := He.ba h
  obtain ⟨h3, h4⟩ := He.ba h
  refine ⟨He.eqO_ok h1, He.eqO_ok h2, of_decide_eq_true h3, ?_⟩
  unfold wfA He5.wf
  split at h4
  · rename_i f r e
    exact ⟨r, by rw [e]⟩
  · cases h4
/-- what isinstance asks of a class of one's own -/
structure TyI (K : Frag) (C : Addr) : Prop where
  cl : Cls K C
  ha : findIn K (.ref C) "__class__" = some (some (.builtin "object.__class__"))
  hn : specialIn K (.builtin "object.__class__") "__get__" = some (some (.builtin "getset_descriptor.__get__"))
  htk : takesIn K (.builtin "object.__class__") = some true
  hm : mroIn K C (.type "object") = some true
def tyB (K : Frag) (x : Str) : Bool := (He.Fa.cls x).ok K && (He.eqO (findIn K (.ref (He.ga K x)) "__class__") (some (some (.builtin "object.__class__"))) &&
  (He.eqO (specialIn K (.builtin "object.__class__") "__get__") (some (some (.builtin "getset_descriptor.__get__"))) && (decide (takesIn K (.builtin "object.__class__") = some true) && decide (mroIn K (He.ga K x) (.type "object") = some true))))
theorem tyB_ok {K : Frag} {x : Str} (h : tyB K x = true) : TyI K (He.ga K x) := by
  obtain ⟨h1, h⟩ := He.ba h
  obtain ⟨h2, h⟩ := He.ba h
  obtain ⟨h3, h⟩ := He.ba h
  obtain ⟨h4, h5⟩ := He.ba h
  exact ⟨He.cls_ok h1, He.eqO_ok h2, He.eqO_ok h3, of_decide_eq_true h4, of_decide_eq_true h5⟩
theorem TyI.tx {K : Frag} {C a dx : Addr} {H : Hp} {fs : List (Str × V)} (t : TyI K C) (e : H a = some (.ins C dx fs)) : TyX K H (.ref a) (.ref C) := .base (.ins e t.cl t.ha t.hn t.htk t.hm)
/-! ### a list of three ints that changes; all else stays -/
def Srcs (H : Hp) (a : Addr) : Prop := ∃ x y z : Int, H a = some (.lst [.int x, .int y, .int z])
def But (a : Addr) (H H' : Hp) : Prop := ∀ c o, H c = some o → c ≠ a → H' c = some o
theorem But.refl (a : Addr) (H : Hp) : But a H H := fun _ _ h _ => h
theorem But.trans {a : Addr} {H H1 H2 : Hp} (e : But a H H1) (f : But a H1 H2) : But a H H2 := fun c o h n => f c o (e c o h n) n
theorem But.same {a : Addr} {H H1 H2 : Hp} (e : But a H H1) (f : Same H1 H2) : But a H H2 := fun c o h n => f c o (e c o h n)
theorem same_but {a : Addr} {H H1 H2 : Hp} (e : Same H H1) (f : But a H1 H2) : But a H H2 := fun c o h n => f c o (e c o h) n
theorem but_of {a : Addr} {H H1 : Hp} (e : Same H H1) : But a H H1 := fun c o h _ => e c o h
theorem But.same0 {a : Addr} {H H1 : Hp} (e : But a H H1) (h : H a = none) : Same H H1 := fun c o k => e c o k (fun z => by rw [z, h] at k; cases k)
theorem But.upd {a : Addr} {H H1 : Hp} {o : HO} (e : But a H H1) : But a H (upd H1 a o) := fun c u h n => by rw [upd_ne n]; exact e c u h n
theorem But.new {a p : Addr} {H H1 : Hp} {o : HO} (e : But a H H1) (hp : H1 p = none) : But a H (L2.upd H1 p o) := e.same (same_new (Same.refl _) hp)
theorem Srcs.same {H H' : Hp} {a : Addr} (h : Srcs H a) (e : Same H H') : Srcs H' a := by
  obtain ⟨x, y, z, h⟩ := h
  exact ⟨x, y, z, e _ _ h⟩
theorem Srcs.new {H : Hp} {a p : Addr} {o : HO} (h : Srcs H a) (hp : H p = none) : Srcs (L2.upd H p o) a := h.same (same_new (Same.refl _) hp)
theorem Srcs.ne {H : Hp} {a p : Addr} (h : Srcs H a) (hp : H p = none) : p ≠ a := fun z => by
  obtain ⟨x, y, w, h⟩ := h
  rw [← z, hp] at h
  cases h
theorem Srcs.neO {H : Hp} {a p : Addr} {o : HO} (h : Srcs H a) (hp : H p = some o) (no : ∀ xs, o ≠ .lst xs) : p ≠ a := fun z => by
  obtain ⟨x, y, w, h⟩ := h
  rw [← z, hp] at h
  exact no _ (Option.some.inj h)
/-! ### an item of a list, drawn -/
theorem fa_nil {α : Type} {P : α → Prop} : ∀ v ∈ ([] : List α), P v := fun _ h => by cases h
theorem fa_cons {α : Type} {P : α → Prop} {x : α} {xs : List α} (h : P x) (t : ∀ v ∈ xs, P v) : ∀ v ∈ x :: xs, P v := fun v hv => by
  rcases List.mem_cons.mp hv with e | e
  · rw [e]; exact h
  · exact t v e
theorem pick {xs : List V} {P : V → Prop} {r : Int} (h0 : 0 ≤ r) (h1 : r < xs.length) (h : ∀ v ∈ xs, P v) : ∃ v, atI xs r = some v ∧ P v := by
  have hlt : r.toNat < xs.length := by omega
  refine ⟨xs[r.toNat], ?_, h _ (List.getElem_mem hlt)⟩
  have e := atI_nat (List.getElem?_eq_getElem hlt)
  rwa [Int.toNat_of_nonneg h0] at e
/-- a value that is an int within bounds -/
def IntB (lo hi : Int) (v : V) : Prop := ∃ i : Int, v = .int i ∧ lo ≤ i ∧ i < hi
theorem e32 : (2 : Int) ^ Int.toNat 32 = 4294967296 := by decide +kernel
theorem e128 : (2 : Int) ^ Int.toNat 128 = 340282366920938463463374607431768211456 := by decide +kernel
theorem e8 : (2 : Int) ^ Int.toNat 8 = 256 := by decide +kernel
theorem e16 : (2 : Int) ^ Int.toNat 16 = 65536 := by decide +kernel
theorem pow_pos' (n : Nat) : (1 : Int) ≤ 2 ^ n := by
  have h : 0 < 2 ^ n := Nat.pow_pos (by decide)
  have e : ((2 ^ n : Nat) : Int) = 2 ^ n := by simp
  omega
/-- one more digit -/
theorem dig_lt {B f v : Int} {i : Nat} (hB : 0 < B) (h0 : 0 ≤ f) (h1 : f < B ^ i) (v0 : 0 ≤ v) (v1 : v < B) : 0 ≤ f * B + v ∧ f * B + v < B ^ (i + 1) := by
  have a : 0 ≤ f * B := Int.mul_nonneg h0 (Int.le_of_lt hB)
  have b : (f + 1) * B ≤ B ^ i * B := Int.mul_le_mul_of_nonneg_right (by omega) (Int.le_of_lt hB)
  rw [Int.add_mul, Int.one_mul] at b
  rw [Int.pow_succ]
  omega
/-! ### comprehensions: the items xs by it, kept by p, each gives f -/
section
variable {J : It} {G : Hp → Prop} {Y : Nat → Hp → V → Hp → Prop} {α : Type}
theorem take_succ' {xs : List α} {i : Nat} {c : α} (h : xs[i]? = some c) : xs.take (i + 1) = xs.take i ++ [c] := by
  rw [List.take_add_one, h]; rfl
theorem lc_fm (xs : List α) (it : α → V) (f : α → V) (p : α → Bool) {n : Nat} (w : Walk J n G Y) (hn : n = xs.length) (hz : xs.length < sizeLine) {g : TG} {tt : TT} {te : TE} {vs : List Nat} {σ : L2.St} {H1 : Hp} {D : Addr} {Qd : Hp → Prop}
    (hY : ∀ i H x H', Y i H x H' → H' = H ∧ ∃ c, xs[i]? = some c ∧ x = it c) (hD : H1 D = none) (hG : ∀ H', Same H1 H' → G H')
    (hs : ∀ c ∈ xs, ∀ H, Same H1 H → ∀ (Qt : Hp → Prop) (Qe : V → Hp → Prop), (∀ H', Same H H' → p c = false → Qt H') → (∀ H', Same H H' → p c = true → Qe (f c) H') →
      g (it c) (wipe σ vs) H fun σ2 H2 => wipe σ2 vs = wipe σ vs ∧ tt σ2 H2 fun b H3 => if b = true then te σ2 H3 Qe else Qt H3)
    (hd : ∀ H', Same H1 H' → H' D = some (.lst ((xs.filter p).map f)) → Qd H') :
    ∃ W : Nat → Nat → Hp → Prop, (∃ m, W 0 m (upd H1 D (.lst []))) ∧ ∀ i m H, W i m H →
      (J.stop i H ∧ Qd H) ∨ (J.go i H ∧ ∃ Nx : Hp → Prop, (∀ H', Nx H' → ∃ m', m' < m ∧ W (i + 1) m' H') ∧ ∀ x H', J.yld i H x H' → g x (wipe σ vs) H' fun σ2 H2 => wipe σ2 vs = wipe σ vs ∧ tt σ2 H2 fun b H3 =>
        if b = true then te σ2 H3 fun y H4 => ∃ acc, H4 D = some (.lst acc) ∧ acc.length < sizeLine ∧ Nx (upd H4 D (.lst (acc ++ [y]))) else Nx H3) := by
  subst hn
  refine lc_it w (fun i H => Same H1 H ∧ H D = some (.lst (((xs.take i).filter p).map f))) ⟨same_new (Same.refl _) hD, upd_same⟩ (fun i H _ h => hG H h.1) ?_ ?_
  · rintro i x H H' hi ⟨sm, hl⟩ y
    obtain ⟨rfl, c, hc, rfl⟩ := hY i H x H' y
    refine hs c (List.mem_of_getElem? hc) _ sm _ _ (fun H2 s2 hp => ⟨sm.trans s2, ?_⟩) (fun H2 s2 hp => ⟨_, s2 _ _ hl, ?_, ?_, ?_⟩)
    · rw [take_succ' hc, List.filter_append]
      have e : [c].filter p = [] := by simp [hp]
      rw [e, List.append_nil]
      exact s2 _ _ hl
    · rw [List.length_map]
      refine Nat.lt_of_le_of_lt (List.length_filter_le _ _) (Nat.lt_of_le_of_lt ?_ hz)
      rw [List.length_take]; omega
    · intro b o hb
      rw [upd_ne (fun z => by rw [z, hD] at hb; cases hb)]
      exact s2 _ _ (sm _ _ hb)
    · rw [upd_same, take_succ' hc, List.filter_append, List.map_append]
      have e : [c].filter p = [c] := by simp [hp]
      rw [e]; rfl
  · rintro H ⟨sm, hl⟩
    refine hd H sm ?_
    rw [List.take_length] at hl
    exact hl
theorem lc_mp (xs : List α) (it : α → V) (f : α → V) {n : Nat} (w : Walk J n G Y) (hn : n = xs.length) (hz : xs.length < sizeLine) {g : TG} {te : TE} {vs : List Nat} {σ : L2.St} {H1 : Hp} {D : Addr} {Qd : Hp → Prop}
    (hY : ∀ i H x H', Y i H x H' → H' = H ∧ ∃ c, xs[i]? = some c ∧ x = it c) (hD : H1 D = none) (hG : ∀ H', Same H1 H' → G H')
    (hs : ∀ c ∈ xs, ∀ H, Same H1 H → ∀ (Qe : V → Hp → Prop), (∀ H', Same H H' → Qe (f c) H') → g (it c) (wipe σ vs) H fun σ2 H2 => wipe σ2 vs = wipe σ vs ∧ te σ2 H2 Qe)
    (hd : ∀ H', Same H1 H' → H' D = some (.lst (xs.map f)) → Qd H') :
    ∃ W : Nat → Nat → Hp → Prop, (∃ m, W 0 m (upd H1 D (.lst []))) ∧ ∀ i m H, W i m H →
      (J.stop i H ∧ Qd H) ∨ (J.go i H ∧ ∃ Nx : Hp → Prop, (∀ H', Nx H' → ∃ m', m' < m ∧ W (i + 1) m' H') ∧ ∀ x H', J.yld i H x H' → g x (wipe σ vs) H' fun σ2 H2 => wipe σ2 vs = wipe σ vs ∧ tYes σ2 H2 fun b H3 =>
        if b = true then te σ2 H3 fun y H4 => ∃ acc, H4 D = some (.lst acc) ∧ acc.length < sizeLine ∧ Nx (upd H4 D (.lst (acc ++ [y]))) else Nx H3) := by
  refine lc_fm xs it f (fun _ => true) w hn hz hY hD hG ?_ ?_
  · intro c hc H sm Qt Qe _ k
    have z := hs c hc H sm Qe (fun H' s' => k H' s' rfl)
    have e : (fun (σ2 : L2.St) (H2 : Hp) => wipe σ2 vs = wipe σ vs ∧ tYes σ2 H2 fun b H3 => if b = true then te σ2 H3 Qe else Qt H3) = fun σ2 H2 => wipe σ2 vs = wipe σ vs ∧ te σ2 H2 Qe := by
      funext σ2 H2
      show (_ ∧ (if true = true then te σ2 H2 Qe else Qt H2)) = _
      rw [if_pos rfl]
    rw [e]
    exact z
  · intro H' sm h
    refine hd H' sm ?_
    have e : xs.filter (fun _ => true) = xs := by simp
    rw [e] at h
    exact h
theorem yat_all {xs : List V} : ∀ i H x H', YAt xs i H x H' → H' = H ∧ ∃ c, xs[i]? = some c ∧ x = id c := fun _ _ _ _ h => ⟨h.1, _, h.2, rfl⟩
theorem yat_map {xs : List α} {it : α → V} : ∀ i H x H', YAt (xs.map it) i H x H' → H' = H ∧ ∃ c, xs[i]? = some c ∧ x = it c := fun i _ x _ h => by
  refine ⟨h.1, ?_⟩
  have e := h.2
  rw [List.getElem?_map] at e
  cases q : xs[i]? with
  | none => rw [q] at e; cases e
  | some c => rw [q] at e; exact ⟨c, rfl, (Option.some.inj e).symm⟩
/-- one sign as a text -/
def sgn (c : Nat) : V := .str ⟨#[c]⟩
theorem ystr {z : Str} : ∀ (i : Nat) (H : Hp) (v : V) (H' : Hp), (fun (i : Nat) (H : Hp) (v : V) (H' : Hp) => H' = H ∧ ∃ c, z.cps[i]? = some c ∧ v = V.str ⟨#[c]⟩) i H v H' → H' = H ∧ ∃ c, (tl z)[i]? = some c ∧ v = sgn c := fun i H v H' h => by
  obtain ⟨h1, c, hc, h2⟩ := h
  exact ⟨h1, c, by rw [← hc]; unfold tl; simp, h2⟩
theorem size_tl (z : Str) : z.cps.size = (tl z).length := by unfold tl; simp
end
/-! ### a class, called: its promise out of its __init__'s -/
structure FnC (P : Program) (w : World) (K : Frag) (mg : Str → Option Value) (base : Heap) (k : Nat) (x : Str) (sp : Sp) : Prop where
  ex : ∃ (f : Addr) (si : Sp), Mk K (He.ga K x) f ∧ Wc P w K mg base k f si ∧ ∀ vs H Q E, sp vs H Q E → ∀ a dx : Addr, H a = none → H dx = none → dx ≠ a →
    si (.ref a :: vs) (upd (upd H dx (.own a)) a (.ins (He.ga K x) dx [])) (fun v H2 => v = .non ∧ Q (.ref a) H2) E
  gl : mg x = some (.ref (He.ga K x))
section
variable {X : Cx} {k : Nat} {sp : Sp} {E : XK} {x : Str} {p pos : Pos} {e : Expr} {es : List Expr} {t : TA}
theorem pe_cl (F : FnC X.prog X.w X.K X.mg X.base k x sp) (hr : Room (k + 1) X.A) (hx : Passes (L2.CX X.prog X.w) X E) (ha : PA X (e :: es) t) (hg : Gl X x := by rfl) (hdb : (x == ("__debug__" : Str)) = false := by decide)
    (he : starEach (e :: es) X.env = (false, eval e X.env) :: starEach es X.env := by rfl) (hpl : (backTo pos (starEach es X.env)).any (·.1) = false := by rfl) :
    PE X (.Call (.Name x p) (e :: es) [] pos) (tF sp E t) := by
  obtain ⟨f, si, M, G, im⟩ := F.ex
  refine ⟨fun pins s σ H Q I h => wpAny_Call_Name_kw (ld_glob I hg F.gl ?_ hdb)⟩
  exact PySem.W.callWith_K (h₀ := X.base) I.ok.mod.kin M.kp (thn (ha.run pos pins s σ H _ I h) fun us s1 ⟨vs, H1, I1, r, q⟩ => ⟨I1.kIn, StX.run_makeR M G hr hx I1 r (im vs H1 Q E q)⟩) he hpl
end
theorem and255 {x : Int} (h : 0 ≤ x) : Builtin.bitAnd x 255 = x % 256 := bitAnd_mask 8 h
theorem and65535 {x : Int} (h : 0 ≤ x) : Builtin.bitAnd x 65535 = x % 65536 := bitAnd_mask 16 h
theorem log_small {i : Int} (h0 : 0 ≤ i) (h1 : i < 2 ^ 200) : i.natAbs.log2 < 1920 := by
  by_cases z : i.natAbs = 0
  · rw [z]; decide
  · refine (Nat.log2_lt z).mpr (Nat.lt_of_lt_of_le (m := 2 ^ 200) ?_ (Nat.pow_le_pow_right (by decide) (by decide)))
    have e : (i.natAbs : Int) = i := by omega
    have e2 : ((2 ^ 200 : Nat) : Int) = 2 ^ 200 := by decide +kernel
    omega
theorem max_min8 (n : Int) (h : 0 ≤ n) (b : Int) (hb : 1 ≤ b) : ∃ N : Int, (if (if n < b then n else b) > 1 then (if n < b then n else b) else 1) = N ∧ 1 ≤ N ∧ N ≤ b := ⟨_, rfl, by split <;> split <;> omega, by split <;> split <;> omega⟩
/-- an object that is no list stays where a source changes -/
theorem But.keep {a : Addr} {H H' : Hp} {p : Addr} {o : HO} (e : But a H H') (S : Srcs H a) (h : H p = some o) (no : ∀ xs, o ≠ .lst xs) : H' p = some o := e p o h (S.neO h no)
theorem but_same {H H1 H2 : Hp} {p : Addr} (e : Same H H1) (B : But p H1 H2) (np : H p = none) : Same H H2 := fun c o h => B c o (e c o h) (fun z => by rw [z, np] at h; cases h)
/-! ### the rules that speak of the written part, by its name -/
def rLenQ (K : Frag) : List V → Hp → VK → Prop := fun xs H Q => ∃ p ys, xs = [V.ref p] ∧ (SqL K H p ys ∨ SqT K H p ys) ∧ Q (.int ys.length) H
def rLenV (K : Frag) : List V → Hp → VK → Prop := fun xs H Q => ∃ x n, xs = [x] ∧ LenV K x H n ∧ Q (.int (n : Int)) H
def rListQ (K : Frag) : List V → Hp → VK → Prop := fun xs H Q => ∃ p ys, xs = [V.ref p] ∧ (SqL K H p ys ∨ SqT K H p ys) ∧ ∀ l, H l = none → Q (.ref l) (upd H l (.lst ys))
def rTupleQ (K : Frag) : List V → Hp → VK → Prop := fun xs H Q => ∃ p ys, xs = [V.ref p] ∧ ((SqL K H p ys ∧ ∀ l, H l = none → Q (.ref l) (upd H l (.tup ys))) ∨ (SqT K H p ys ∧ Q (.ref p) H))
section
variable {X : Cx}
theorem c_lenq (K : Frag) (e : X.K = K := by rfl) : CallR X (.builtin "len") (rLenQ K) := by subst e; exact call_len_seq
theorem c_lenv (K : Frag) (e : X.K = K := by rfl) : CallR X (.builtin "len") (rLenV K) := by subst e; exact call_len
theorem c_isi (K : Frag) (e : X.K = K := by rfl) : CallR X (.builtin "isinstance") (rIsi K) := by subst e; exact call_isi
theorem c_isiT (K : Frag) (e : X.K = K := by rfl) : CallR X (.builtin "isinstance") (rIsiT K) := by subst e; exact call_isiT
theorem c_all (K : Frag) (hc : X.calm = true) (e : X.K = K := by rfl) : CallR X (.builtin "all") (rAll K) := by subst e; exact cr_all hc
theorem c_any (K : Frag) (hc : X.calm = true) (e : X.K = K := by rfl) : CallR X (.builtin "any") (rAny K) := by subst e; exact cr_any hc
theorem c_sum (K : Frag) (hc : X.calm = true) (e : X.K = K := by rfl) : CallR X (.builtin "sum") (rSum K) := by subst e; exact cr_sum hc
theorem c_list (K : Frag) (e : X.K = K := by rfl) : CallR X (.type "list") (rListQ K) := by subst e; exact call_list_of
theorem c_tuple (K : Frag) (e : X.K = K := by rfl) : CallR X (.type "tuple") (rTupleQ K) := by subst e; exact call_tuple_of
theorem o_inq (K : Frag) (e : X.K = K := by rfl) : OpR X (compareOp .In) (rIn K false) := by subst e; exact op_in_seq
theorem o_notInq (K : Frag) (e : X.K = K := by rfl) : OpR X (compareOp .NotIn) (rIn K true) := by subst e; exact op_notIn_seq
theorem o_eqD (K : Frag) (hu : X.A.units + 64 < cLine) (e : X.K = K := by rfl) : OpR X (compareOp .Eq) (rEqD K) := by subst e; exact op_eqD hu
theorem o_neD (K : Frag) (hu : X.A.units + 64 < cLine) (e : X.K = K := by rfl) : OpR X (compareOp .NotEq) (rNeD K) := by subst e; exact op_neD hu
theorem o_catL (K : Frag) (e : X.K = K := by rfl) : OpR X (binaryOp .Add) (rCatL K) := by subst e; exact op_catL
theorem x_list (K : Frag) (e : X.K = K := by rfl) : IxR X (rIxL K) := by subst e; exact ix_list
theorem x_tup (K : Frag) (e : X.K = K := by rfl) : IxR X (rIxT K) := by subst e; exact ix_tup
theorem s_list (K : Frag) (e : X.K = K := by rfl) : SlR X (rSlL K) := by subst e; exact sl_list
theorem s_tup (K : Frag) (e : X.K = K := by rfl) : SlR X (rSlT K) := by subst e; exact sl_tup
theorem p_fld (K : Frag) {o : Expr} {f : Str} {ta : TE} {pos : Pos} (he : PE X o ta) (hb : attributeBase o f X.env (eval o X.env) = eval o X.env := by rfl) (e : X.K = K := by rfl) : PE X (.Attribute o f pos) (tFld K ta f) := by subst e; exact pe_fld he hb
theorem p_con (K : Frag) {o : Expr} {f : Str} {ta : TE} {pos : Pos} (he : PE X o ta) (hb : attributeBase o f X.env (eval o X.env) = eval o X.env := by rfl) (e : X.K = K := by rfl) : PE X (.Attribute o f pos) (tCon K ta f) := by subst e; exact pe_con he hb
theorem i_list (K : Frag) {tg l : Expr} {tl : TE} (hl : PE X l tl) (e : X.K = K := by rfl) : PI X tg l (iList K tl) := by subst e; exact pi_list hl
theorem i_tup (K : Frag) {tg l : Expr} {tl : TE} (hl : PE X l tl) (e : X.K = K := by rfl) : PI X tg l (iTup K tl) := by subst e; exact pi_tup hl
theorem p_revL (K : Frag) {o : Expr} {te : TE} {k : Nat} {p1 p2 p3 pos : Pos} (he : PE X o te) (e : X.K = K := by rfl) : PE X (.Subscript o (.Slice none none (some (.UnaryOp .USub (.Constant (.int 1) k p1) p2)) p3) pos) (tRevL K te) := by subst e; exact pe_revL he
theorem p_orT (K : Frag) {a b : Expr} {rest : List Expr} {pos : Pos} {ta tb : TE} (ha : PE X a ta) (hb : PE X (.BoolOp .Or (b :: rest) pos) tb) (e : X.K = K := by rfl) : PE X (.BoolOp .Or (a :: b :: rest) pos) (tOrT K ta tb) := by subst e; exact pe_orT ha hb
theorem p_notT (K : Frag) {a : Expr} {pos : Pos} {ta : TE} (ha : PE X a ta) (e : X.K = K := by rfl) : PE X (.UnaryOp .Not a pos) (tNotT K ta) := by subst e; exact pe_notT ha
end
/-! ### new objects, the heap behind them by a name of its own -/
/-- an object o is laid: what stood stands -/
def New (H : Hp) (o : HO) (Q : VK) : Prop := ∀ (p : Addr) (H' : Hp), Same H H' → H p = none → H' p = some o → Q (.ref p) H'
theorem New.at {H : Hp} {o : HO} {Q : VK} (n : New H o Q) : ∀ p, H p = none → Q (.ref p) (upd H p o) := fun p np => n p _ (same_new (Same.refl _) np) np upd_same
def tLstA (t : TA) : TE := fun σ H Q => t σ H fun xs H1 => xs.length ≤ sizeLine ∧ New H1 (.lst xs) Q
def tTupA (t : TA) : TE := fun σ H Q => t σ H fun xs H1 => xs.length ≤ sizeLine ∧ New H1 (.tup xs) Q
section
variable {X : Cx} {es : List Expr} {t : TA} {pos : Pos}
theorem p_lst (h : PA X es t) : PE X (.List es pos) (tLstA t) := by
  refine ⟨fun pins s σ H Q I hq => wpAny_List_spliced (thn (h.run pos pins s σ H _ I hq) fun us s1 hh => ?_)⟩
  obtain ⟨xs, H1, I1, r, z, q⟩ := hh
  refine ⟨by rw [← r.length]; exact z, .ref s1.heap.objs.size, _, I1.lnew (t' := s1.toks) r z, rfl, q.at _ I1.fresh⟩
theorem p_tup {x1} (h : PA X es t) : PE X (.Tuple es x1 pos) (tTupA t) := by
  refine ⟨fun pins s σ H Q I hq => wpAny_Tuple_spliced (thn (h.run pos pins s σ H _ I hq) fun us s1 hh => ?_)⟩
  obtain ⟨xs, H1, I1, r, z, q⟩ := hh
  refine ⟨by rw [← r.length]; exact z, .ref s1.heap.objs.size, _, I1.laid (t' := s1.toks) (o := .tup xs) (fun b u e => Heap.get?_push_of_some _ e) (Nat.le_refl _) ?_, rfl, q.at _ I1.fresh⟩
  exact ⟨z, us, r, ⟨_, Heap.get?_push_size _ rfl, rfl, _, rfl⟩⟩
def rCatA (K : Frag) : R2 := fun x y H Q => ∃ l b xs zs, x = .ref l ∧ y = .ref b ∧ SqL K H l xs ∧ SqL K H b zs ∧ xs.length + zs.length ≤ sizeLine ∧ New H (.lst (xs ++ zs)) Q
theorem o_catA (K : Frag) (e : X.K = K := by rfl) : OpR X (binaryOp .Add) (rCatA K) := by
  subst e
  intro pins s σ H x y v u Q I rx ry h
  obtain ⟨l, b, xs, zs, h1, h2, h3, h4, h5, q⟩ := h
  exact op_catL pins s σ H x y v u Q I rx ry ⟨l, b, xs, zs, h1, h2, h3, h4, h5, q.at⟩
def rSlA (K : Frag) : V → Option Int → Option Int → Hp → VK → Prop := fun x lo hi H Q => ∃ a xs, x = .ref a ∧ SqL K H a xs ∧ New H (.lst (cutV xs lo hi)) Q
theorem s_listA (K : Frag) (e : X.K = K := by rfl) : SlR X (rSlA K) := by
  subst e
  intro pins s σ H x v vl vu lo hi sl Q I rx hs pl pu h
  obtain ⟨a, xs, h1, h2, q⟩ := h
  exact sl_list pins s σ H x v vl vu lo hi sl Q I rx hs pl pu ⟨a, xs, h1, h2, q.at⟩
def rSplitA : V → List V → Hp → VK → Prop := fun x xs H Q => ∃ a b : Str, x = .str a ∧ xs = [.str b] ∧ (b.length == 0) = false ∧ a.length + 2 ≤ sizeLine ∧ New H (.lst ((Txt.split a b).map V.str)) Q
theorem m_split : MtR X "str.split" rSplitA := by
  intro pins s σ H x xs v us Q I rx rxs h
  obtain ⟨a, b, h1, h2, h3, h4, q⟩ := h
  exact mt_split pins s σ H x xs v us Q I rx rxs ⟨a, b, h1, h2, h3, h4, q.at⟩
def rPartA : V → List V → Hp → VK → Prop := fun x xs H Q => ∃ a b : Str, x = .str a ∧ xs = [.str b] ∧ (b.length == 0) = false ∧ a.length ≤ sizeLine ∧ New H (.tup [.str (Txt.partition a b).1, .str (Txt.partition a b).2.1, .str (Txt.partition a b).2.2]) Q
theorem m_partition : MtR X "str.partition" rPartA := by
  intro pins s σ H x xs v us Q I rx rxs h
  obtain ⟨a, b, h1, h2, h3, h4, q⟩ := h
  exact mt_partition pins s σ H x xs v us Q I rx rxs ⟨a, b, h1, h2, h3, h4, q.at⟩
def rRepA : R2 := fun x y H Q => ∃ l k xs, x = .ref l ∧ y = .int k ∧ H l = some (.lst xs) ∧ -(2 ^ 63) ≤ k ∧ k < 2 ^ 63 ∧ xs.length * k.toNat ≤ sizeLine ∧ New H (.lst (List.replicate k.toNat xs).flatten) Q
theorem o_repA : OpR X (binaryOp .Mult) rRepA := by
  intro pins s σ H x y v u Q I rx ry h
  obtain ⟨l, k, xs, h1, h2, h3, h4, h5, h6, q⟩ := h
  exact op_rep pins s σ H x y v u Q I rx ry ⟨l, k, xs, h1, h2, h3, h4, h5, h6, q.at⟩
end
theorem fa_app {α : Type} {P : α → Prop} {xs ys : List α} (h : ∀ v ∈ xs, P v) (t : ∀ v ∈ ys, P v) : ∀ v ∈ xs ++ ys, P v := fun v hv => (List.mem_append.mp hv).elim (h v) (t v)
theorem fa_map {α β : Type} {P : β → Prop} {f : α → β} {xs : List α} (h : ∀ c ∈ xs, P (f c)) : ∀ v ∈ xs.map f, P v := fun v hv => by
  obtain ⟨c, hc, rfl⟩ := List.mem_map.mp hv
  exact h c hc
end An
namespace An
open PySem PySem.W PySem.Spec PyProof.Rows L2 TL Bits
theorem cmul_l {i j : Int} (h : -18446744073709551616 < i ∧ i < 18446744073709551616) : CMul i j := Or.inl h
theorem cmul_r {i j : Int} (h : -18446744073709551616 < j ∧ j < 18446744073709551616) : CMul i j := Or.inr h
theorem cdivw {i j : Int} (h : 0 < j) (h2 : j < 2 ^ 200) : CDivW i j := by
  refine wide_div h (b := 200) ?_ (by decide) (by decide)
  have e : (j.natAbs : Int) = j := by omega
  have e2 : ((2 ^ 200 : Nat) : Int) = 2 ^ 200 := by decide +kernel
  omega
theorem cshl {i j : Int} (h0 : 0 ≤ j) (h1 : j ≤ 100000) (h2 : -(2 ^ 200) < i) (h3 : i < 2 ^ 200) : CShl i j := by
  obtain ⟨n, rfl⟩ := Int.eq_ofNat_of_zero_le h0
  have e2 : ((2 ^ 200 : Nat) : Int) = 2 ^ 200 := by decide +kernel
  exact shl_ok (n := 200) (by omega) (by omega)
theorem cpow10 : CPow 10 18 := ⟨by decide, by decide, by decide⟩
end An
-- the sides of an operation
local macro_rules | `(tactic| walk_at "side") => `(tactic| first
  | with_reducible exact An.cpow10
  | (with_reducible refine An.cdivw ?_ ?_) <;> omega
  | (with_reducible refine An.cshl ?_ ?_ ?_ ?_) <;> omega
  | (with_reducible refine An.cmul_l ?_; omega)
  | (with_reducible refine An.cmul_r ?_; omega)
  | (show (0 : Int) < _; omega)
  | (show (0 : Int) ≤ _; omega))
-- one step of a reading
local macro_rules | `(tactic| walk_at "rd1") => `(tactic| first
  | refine ⟨_, rfl, ?_⟩
  | refine ⟨_, _, rfl, rfl, (by walk_at "side"), ?_⟩
  | refine ⟨_, _, rfl, rfl, ?_⟩
  | refine Or.inl ⟨_, rfl, ?_⟩
  | refine ⟨(rfl : _ = _), ?_⟩)
local macro_rules | `(tactic| walk_at "rd") => `(tactic| repeat walk_at "rd1")
-- what stood stands: along the heaps that the context names
local macro_rules | `(tactic| walk_at "same") => `(tactic| first
  | assumption
  | exact L2.Same.refl _
  | (refine An.same_new ?_ (by assumption)) <;> walk_at "same"
  | (refine L2.Same.trans ?_ (by assumption)) <;> walk_at "same")
namespace An
open PySem PySem.W PySem.Spec PyProof.Rows L2 TL Bits
def top (i : Nat) : Stmt := PySem.Challenge.pw_addressnets_k12_questions_of_version_4.main.body.getD i (.Pass ⟨0, 0, 0, 0⟩)
structure Tx (K : Frag) (mg : Str → Option Value) : Prop where
  d__law_mix : FnS K "_law_mix" "_law_mix" (top 35) (He.ga K "_law_mix")
  kp__law_mix : keepIn K (.ref (He.ga K "_law_mix")) = true
  g__law_mix : mg "_law_mix" = some (.ref (He.ga K "_law_mix"))
  f_int : mg "int" = none
  d__law_source : FnS K "_law_source" "_law_source" (top 36) (He.ga K "_law_source")
  kp__law_source : keepIn K (.ref (He.ga K "_law_source")) = true
  g__law_source : mg "_law_source" = some (.ref (He.ga K "_law_source"))
  f_len : mg "len" = none
  d__law_draw : FnS K "_law_draw" "_law_draw" (top 37) (He.ga K "_law_draw")
  kp__law_draw : keepIn K (.ref (He.ga K "_law_draw")) = true
  g__law_draw : mg "_law_draw" = some (.ref (He.ga K "_law_draw"))
  d__law_number : FnS K "_law_number" "_law_number" (top 38) (He.ga K "_law_number")
  kp__law_number : keepIn K (.ref (He.ga K "_law_number")) = true
  g__law_number : mg "_law_number" = some (.ref (He.ga K "_law_number"))
  f_min : mg "min" = none
  f_range : mg "range" = none
  d_part_fault : FnS K "part_fault" "part_fault" (top 10) (He.ga K "part_fault")
  kp_part_fault : keepIn K (.ref (He.ga K "part_fault")) = true
  g_part_fault : mg "part_fault" = some (.ref (He.ga K "part_fault"))
  f_all : mg "all" = none
  s_DIGITS : ∃ t, mg "DIGITS" = some (.str "0123456789" t)
  d_quad_fault : FnS K "quad_fault" "quad_fault" (top 11) (He.ga K "quad_fault")
  kp_quad_fault : keepIn K (.ref (He.ga K "quad_fault")) = true
  g_quad_fault : mg "quad_fault" = some (.ref (He.ga K "quad_fault"))
  d_read_quad : FnS K "read_quad" "read_quad" (top 12) (He.ga K "read_quad")
  kp_read_quad : keepIn K (.ref (He.ga K "read_quad")) = true
  g_read_quad : mg "read_quad" = some (.ref (He.ga K "read_quad"))
  d_quad_parts : FnS K "quad_parts" "quad_parts" (top 13) (He.ga K "quad_parts")
  kp_quad_parts : keepIn K (.ref (He.ga K "quad_parts")) = true
  g_quad_parts : mg "quad_parts" = some (.ref (He.ga K "quad_parts"))
  d_quad_text : FnS K "quad_text" "quad_text" (top 14) (He.ga K "quad_text")
  kp_quad_text : keepIn K (.ref (He.ga K "quad_text")) = true
  g_quad_text : mg "quad_text" = some (.ref (He.ga K "quad_text"))
  d_is_integer : FnS K "is_integer" "is_integer" (top 29) (He.ga K "is_integer")
  kp_is_integer : keepIn K (.ref (He.ga K "is_integer")) = true
  g_is_integer : mg "is_integer" = some (.ref (He.ga K "is_integer"))
  f_isinstance : mg "isinstance" = none
  f_bool : mg "bool" = none
  d_is_from : FnS K "is_from" "is_from" (top 30) (He.ga K "is_from")
  kp_is_from : keepIn K (.ref (He.ga K "is_from")) = true
  g_is_from : mg "is_from" = some (.ref (He.ga K "is_from"))
  d_number_of : FnS K "number_of" "number_of" (top 32) (He.ga K "number_of")
  kp_number_of : keepIn K (.ref (He.ga K "number_of")) = true
  g_number_of : mg "number_of" = some (.ref (He.ga K "number_of"))
  f_str : mg "str" = none
  i_WIDTH4 : ∃ t, mg "WIDTH4" = some (.int 32 t)
  dm_Address4____init__ : FnS K "__init__" "Address4.__init__" (inClass (top 33) 2) (He.ma K (He.ga K "Address4") "__init__")
  g_Address4 : mg "Address4" = some (.ref (He.ga K "Address4"))
  ki_int_Address4 : kitOne K (.type "int") (.ref (He.ga K "Address4")) = some false
  c_Address4 : Cls K (He.ga K "Address4")
  na_Address4__number : NoAttr K (He.ga K "Address4") "number"
  ki_str_Address4 : kitOne K (.type "str") (.ref (He.ga K "Address4")) = some false
  ty_Address4 : TyI K (He.ga K "Address4")
  ki_Address4_Address4 : kitOne K (.ref (He.ga K "Address4")) (.ref (He.ga K "Address4")) = some true
  mk_Address4 : Mk K (He.ga K "Address4") (He.ma K (He.ga K "Address4") "__init__")
  dm_Address4____str__ : FnS K "__str__" "Address4.__str__" (inClass (top 33) 12) (He.ma K (He.ga K "Address4") "__str__")
  dm_Address4__is_unspecified : FnS K "is_unspecified" "Address4.is_unspecified" (inClass (top 33) 8) (wfA K "Address4" "property" "is_unspecified")
  dm_Address4__is_loopback : FnS K "is_loopback" "Address4.is_loopback" (inClass (top 33) 9) (wfA K "Address4" "property" "is_loopback")
  dm_Address4__is_multicast : FnS K "is_multicast" "Address4.is_multicast" (inClass (top 33) 10) (wfA K "Address4" "property" "is_multicast")
  dm_Address4__is_link_local : FnS K "is_link_local" "Address4.is_link_local" (inClass (top 33) 11) (wfA K "Address4" "property" "is_link_local")
  d__law_told : FnS K "_law_told" "_law_told" (top 39) (He.ga K "_law_told")
  kp__law_told : keepIn K (.ref (He.ga K "_law_told")) = true
  g__law_told : mg "_law_told" = some (.ref (He.ga K "_law_told"))
  p_Address4__is_unspecified : PropOf K (He.ga K "Address4") "is_unspecified" (He.ma K (He.ga K "Address4") "is_unspecified") (wfA K "Address4" "property" "is_unspecified")
  p_Address4__is_loopback : PropOf K (He.ga K "Address4") "is_loopback" (He.ma K (He.ga K "Address4") "is_loopback") (wfA K "Address4" "property" "is_loopback")
  p_Address4__is_multicast : PropOf K (He.ga K "Address4") "is_multicast" (He.ma K (He.ga K "Address4") "is_multicast") (wfA K "Address4" "property" "is_multicast")
  p_Address4__is_link_local : PropOf K (He.ga K "Address4") "is_link_local" (He.ma K (He.ga K "Address4") "is_link_local") (wfA K "Address4" "property" "is_link_local")
  d__law_due : FnS K "_law_due" "_law_due" (top 40) (He.ga K "_law_due")
  kp__law_due : keepIn K (.ref (He.ga K "_law_due")) = true
  g__law_due : mg "_law_due" = some (.ref (He.ga K "_law_due"))
  d_law : FnS K "law" "law" (top 41) (He.ga K "law")
  g_law : mg "law" = some (.ref (He.ga K "law"))
  f_max : mg "max" = none
  m_Address4____str__ : Meth K (He.ga K "Address4") "__str__" (He.ma K (He.ga K "Address4") "__str__")
section
variable {P : Program} {w : World} {K : Frag} {mg : Str → Option Value} {base : Heap}
abbrev s__law_mix : Stmt := (top 35)
abbrev N__law_mix : List Str := [("_law_cell" : Str), ("_law_step" : Str), ("_law_blend" : Str)]
theorem sc__law_mix : FnScope N__law_mix [("_law_cell" : Str), ("_law_step" : Str)] (defScope s__law_mix) := ⟨rfl, rfl, rfl, by decide +kernel, rfl, by decide +kernel, by decide +kernel⟩
def sp__law_mix (K : Frag) : Sp := fun vs H Q E => ∃ c t : Int, vs = [.int c, .int t] ∧ ∀ r : Int, 0 ≤ r → r < 2147483563 → Q (.int r) H
theorem ok__law_mix (T : Tx K mg) : FnG P w K mg base 1 "_law_mix" (sp__law_mix K) := by
  refine ⟨fnr T.d__law_mix sc__law_mix (fun vs H Q E h => by obtain ⟨c, t, rfl, k⟩ := h; rfl) (fun _ _ _ _ _ _ us hl => match us, hl with | [_, _], _ => rfl) (fun cdv A outer s H vs Q E hr h => ?_), T.kp__law_mix, T.g__law_mix⟩
  have nd := sc__law_mix.nd
  have hu := hu_of hr
  obtain ⟨c, t, rfl, k⟩ := h
  refine ⟨_, PSs.nox (pss_cons (ps_set (i := 2) nd rfl (Or.inl rfl) (pe_op op_add (pe_op op_add (pe_op op_add (pe_op op_mod (pe_callTy call_int1 (by rfl) T.f_int bb_int (pa_cons (pv 0) pa_nil)) pe_int) (pe_op op_mul pe_int (pv 1))) (pe_op op_mod (pe_callTy call_int1 (by rfl) T.f_int bb_int (pa_cons (pe_op op_fdivW (pv 0) pe_int) pa_nil)) pe_int)) pe_int))
        (pss_cons (ps_set (i := 2) nd rfl (Or.inl rfl) (pe_op op_mod (pe_callTy call_int1 (by rfl) T.f_int bb_int (pa_cons (pe_op op_mul (pv 2) pe_int) pa_nil)) pe_int))
        (pss_cons (ps_set (i := 2) nd rfl (Or.inl rfl) (pe_op op_mod (pe_callTy call_int1 (by rfl) T.f_int bb_int (pa_cons (pe_op op_mul (pv 2) (pe_op op_add (pe_op op_add (pe_op op_fdivW (pv 2) pe_int) pe_int) (pv 1))) pa_nil)) pe_int))
        (pss_one (ps_ret (pe_op op_mod (pe_callTy call_int1 (by rfl) T.f_int bb_int (pa_cons (pe_op op_mul (pv 2) (pe_op op_add (pe_op op_fdivW (pv 2) pe_int) pe_int)) pa_nil)) pe_int)))))), ?_⟩
  walk_at "rd"
  exact k _ (Int.emod_nonneg _ (by decide)) (Int.emod_lt_of_pos _ (by decide))
abbrev s__law_source : Stmt := (top 36)
abbrev N__law_source : List Str := [("_law_script" : Str), ("_law_k" : Str), ("_law_cell" : Str)]
theorem sc__law_source : FnScope N__law_source [("_law_script" : Str), ("_law_k" : Str)] (defScope s__law_source) := ⟨rfl, rfl, rfl, by decide +kernel, rfl, by decide +kernel, by decide +kernel⟩
def sp__law_source (K : Frag) : Sp := fun vs H Q E => ∃ (a : Addr) (ns : List Int) (k : Int), vs = [.ref a, .int k] ∧ SqL K H a (ns.map V.int) ∧ ns.length ≤ 63 ∧ 0 ≤ k ∧ k ≤ 63 ∧ ∀ (p : Addr) (H' : Hp) (x y : Int), Same H H' → H p = none → H' p = some (.lst [.int x, .int y, .int 0]) → Q (.ref p) H'
theorem ok__law_source (T : Tx K mg) : FnG P w K mg base 1 "_law_source" (sp__law_source K) := by
  refine ⟨fnr T.d__law_source sc__law_source (fun vs H Q E h => by obtain ⟨a, ns, k, rfl, hS, hl, h0, h1, q⟩ := h; rfl) (fun _ _ _ _ _ _ us hl => match us, hl with | [_, _], _ => rfl) (fun cdv A outer s H vs Q E hr h => ?_), T.kp__law_source, T.g__law_source⟩
  have nd := sc__law_source.nd
  have hu := hu_of hr
  obtain ⟨a, ns, k, rfl, hS, hl, h0, h1, q⟩ := h
  refine ⟨_, PSs.nox (pss_cons (ps_set (i := 2) nd rfl (Or.inl rfl) (pe_op op_add (pe_ix (x_list K) (pe_op (o_catA K) (pv 0) (p_lst (pa_cons pe_int pa_nil))) pe_int (fun _ _ => rfl)) (pe_op op_mul pe_int (pv 1))))
        (pss_cons (ps_if (pt_cmpR op_lt (pv 1) (pe_callB (c_lenq K) (by rfl) T.f_len bb_len (pa_cons (pv 0) pa_nil)) (nomark _)) (pss_one (ps_set (i := 2) nd rfl (Or.inl rfl) (pe_ix (x_list K) (pv 0) (pv 1) (fun _ _ => rfl))))
        pss_nil)
        (pss_one (ps_ret (p_lst (pa_cons (pv 2) (pa_cons (pv 2) (pa_cons pe_int pa_nil)))))))), ?_⟩
  walk_at "rd"
  refine ⟨lz, fun p1 H1 s1 np1 hp1 => ?_⟩
  refine ⟨_, _, _, _, rfl, rfl, s1.seq hS, SqL.of hp1, ?_, fun p2 H2 s12 np2 hp2 => ?_⟩
  · rw [List.length_map]; show ns.length + 1 ≤ sizeLine; exact Nat.le_trans (Nat.succ_le_succ hl) (by decide)
  have s2 : Same H H2 := s1.trans s12
  obtain ⟨c0, hc0⟩ : ∃ c0, (ns.map V.int ++ [V.int 0])[0]? = some (V.int c0) := by
    cases ns with
    | nil => exact ⟨0, rfl⟩
    | cons n r => exact ⟨n, rfl⟩
  refine ⟨_, _, _, _, rfl, rfl, SqL.of hp2, atI_nat (j := 0) hc0, ?_⟩
  walk_at "rd"
  refine ⟨_, _, rfl, Or.inl (s2.seq hS), ?_⟩
  walk_at "rd"
  refine ite2 (fun hk => ?_) (fun hk => ?_)
  · have hk2 : k < (ns.map V.int).length := of_decide_eq_true hk
    rw [List.length_map] at hk2
    have hlt : k.toNat < ns.length := by omega
    have e1 : (ns.map V.int)[k.toNat]? = some (V.int ns[k.toNat]) := by rw [List.getElem?_map, List.getElem?_eq_getElem hlt]; rfl
    have e2 : atI (ns.map V.int) k = some (V.int ns[k.toNat]) := by
      have := atI_nat e1
      rwa [Int.toNat_of_nonneg h0] at this
    walk_at "rd"
    refine ⟨_, _, _, _, rfl, rfl, s2.seq hS, e2, ?_⟩
    walk_at "rd"
    refine ⟨lz, fun p3 H3 s3 np3 hp3 => ?_⟩
    exact q p3 _ _ _ (s2.trans s3) (s2.free np3) hp3
  · walk_at "rd"
    refine ⟨lz, fun p3 H3 s3 np3 hp3 => ?_⟩
    exact q p3 _ _ _ (s2.trans s3) (s2.free np3) hp3
abbrev s__law_draw : Stmt := (top 37)
abbrev N__law_draw : List Str := [("_law_source_here" : Str), ("_law_many" : Str), ("_law_found" : Str)]
theorem sc__law_draw : FnScope N__law_draw [("_law_source_here" : Str), ("_law_many" : Str)] (defScope s__law_draw) := ⟨rfl, rfl, rfl, by decide +kernel, rfl, by decide +kernel, by decide +kernel⟩
def sp__law_draw (K : Frag) : Sp := fun vs H Q E => ∃ (a : Addr) (m : Int), vs = [.ref a, .int m] ∧ Srcs H a ∧ 0 < m ∧ m < 2 ^ 200 ∧ ∀ (r : Int) (H' : Hp), 0 ≤ r → r < m → Srcs H' a → But a H H' → Q (.int r) H'
theorem ok__law_draw (T : Tx K mg) : FnG P w K mg base 2 "_law_draw" (sp__law_draw K) := by
  have F__law_mix := ok__law_mix (P := P) (w := w) (base := base) T
  refine ⟨fnr T.d__law_draw sc__law_draw (fun vs H Q E h => by obtain ⟨a, m, rfl, ⟨x, y, z, hS⟩, h0, h1, q⟩ := h; rfl) (fun _ _ _ _ _ _ us hl => match us, hl with | [_, _], _ => rfl) (fun cdv A outer s H vs Q E hr h => ?_), T.kp__law_draw, T.g__law_draw⟩
  have nd := sc__law_draw.nd
  have hu := hu_of hr
  obtain ⟨a, m, rfl, ⟨x, y, z, hS⟩, h0, h1, q⟩ := h
  refine ⟨_, PSs.nox (pss_cons (ps_if (pt_cmpR op_ge (pe_ix (x_list K) (pv 0) pe_int (fun _ _ => rfl)) (pe_op op_pow pe_int pe_int) (nomark _)) (pss_cons (ps_set (i := 2) nd rfl (Or.inl rfl) (pe_op op_mod (pe_callTy call_int1 (by rfl) T.f_int bb_int (pa_cons (pe_ix (x_list K) (pv 0) pe_int (fun _ _ => rfl)) pa_nil)) (pv 1)))
        (pss_cons (ps_asg (pe_op op_fdivW (pe_ix (x_list K) (pv 0) pe_int (fun _ _ => rfl)) (pv 1)) (pg_sub (pv 0) pe_int set_list))
        (pss_one (ps_ret (pv 2)))))
        pss_nil)
        (pss_cons (ps_asg (pe_op op_add (pe_ix (x_list K) (pv 0) pe_int (fun _ _ => rfl)) pe_int) (pg_sub (pv 0) pe_int set_list))
        (pss_one (ps_ret (pe_op op_mod (pe_callTy call_int1 (by rfl) T.f_int bb_int (pa_cons (pe_f F__law_mix (hr.mono (by decide)) passL (pa_cons (pe_ix (x_list K) (pv 0) pe_int (fun _ _ => rfl)) (pa_cons (pe_ix (x_list K) (pv 0) pe_int (fun _ _ => rfl)) pa_nil))) pa_nil)) (pv 1)))))), ?_⟩
  walk_at "rd"
  refine ⟨_, _, _, _, rfl, rfl, SqL.of hS, atI_nat (j := 0) rfl, ?_⟩
  walk_at "rd"
  refine ite2 (fun _ => ?_) (fun _ => ?_)
  · walk_at "rd"
    refine ⟨_, _, _, _, rfl, rfl, SqL.of hS, atI_nat (j := 0) rfl, ?_⟩
    walk_at "rd"
    refine ⟨_, _, _, _, rfl, rfl, SqL.of hS, atI_nat (j := 0) rfl, ?_⟩
    walk_at "rd"
    refine ⟨_, _, _, 0, rfl, rfl, hS, rfl, ?_⟩
    walk_at "rd"
    exact q _ _ (Int.emod_nonneg _ (by omega)) (Int.emod_lt_of_pos _ h0) ⟨_, _, _, upd_same⟩ (But.refl a H).upd
  · walk_at "rd"
    refine ⟨_, _, _, _, rfl, rfl, SqL.of hS, atI_nat (j := 2) rfl, ?_⟩
    walk_at "rd"
    refine ⟨_, _, _, 2, rfl, rfl, hS, rfl, ?_⟩
    walk_at "rd"
    refine ⟨_, _, _, _, rfl, rfl, SqL.of upd_same, atI_nat (j := 1) rfl, ?_⟩
    walk_at "rd"
    refine ⟨_, _, _, _, rfl, rfl, SqL.of upd_same, atI_nat (j := 2) rfl, ?_⟩
    walk_at "rd"
    refine ⟨_, _, rfl, fun r hr0 hr1 => ?_⟩
    walk_at "rd"
    exact q _ _ (Int.emod_nonneg _ (by omega)) (Int.emod_lt_of_pos _ h0) ⟨_, _, _, upd_same⟩ (But.refl a H).upd
abbrev s__law_number : Stmt := (top 38)
abbrev N__law_number : List Str := [("_law_source_here" : Str), ("_law_bits" : Str), ("_law_top" : Str), ("_law_way" : Str), ("_law_step" : Str), ("_law_found" : Str), ("_law_k" : Str), ("_law_some" : Str)]
theorem sc__law_number : FnScope N__law_number [("_law_source_here" : Str), ("_law_bits" : Str)] (defScope s__law_number) := ⟨rfl, rfl, rfl, by decide +kernel, rfl, by decide +kernel, by decide +kernel⟩
def sp__law_number (K : Frag) : Sp := fun vs H Q E => ∃ (a : Addr) (b : Int), vs = [.ref a, .int b] ∧ (b = 32 ∨ b = 128) ∧ Srcs H a ∧ ∀ (n : Int) (H' : Hp), 0 ≤ n → n < 2 ^ b.toNat → Srcs H' a → But a H H' → Q (.int n) H'
theorem ok__law_number (T : Tx K mg) : FnG P w K mg base 3 "_law_number" (sp__law_number K) := by
  have F__law_draw := ok__law_draw (P := P) (w := w) (base := base) T
  refine ⟨fnr T.d__law_number sc__law_number (fun vs H Q E h => by obtain ⟨a, b, rfl, hb, hS, q⟩ := h; rfl) (fun _ _ _ _ _ _ us hl => match us, hl with | [_, _], _ => rfl) (fun cdv A outer s H vs Q E hr h => ?_), T.kp__law_number, T.g__law_number⟩
  have nd := sc__law_number.nd
  have hu := hu_of hr
  obtain ⟨a, b, rfl, hb, hS, q⟩ := h
  refine ⟨_, PSs.nox (pss_cons (ps_set (i := 2) nd rfl (Or.inl rfl) (pe_op op_sub (pe_op op_shlW pe_int (pv 1)) pe_int))
        (pss_cons (ps_set (i := 3) nd rfl (Or.inl rfl) (pe_f F__law_draw (hr.mono (by decide)) passL (pa_cons (pv 0) (pa_cons pe_int pa_nil))))
        (pss_cons (ps_if (pt_cmpR op_eq (pv 3) pe_int (nomark _)) (pss_one (ps_ret (pe_ix (x_list K) (p_lst (pa_cons pe_int (pa_cons pe_int (pa_cons (pv 2) (pa_cons (pe_op op_sub (pv 2) pe_int) pa_nil))))) (pe_f F__law_draw (hr.mono (by decide)) passL (pa_cons (pv 0) (pa_cons pe_int pa_nil))) (fun _ _ => rfl))))
        pss_nil)
        (pss_cons (ps_if (pt_cmpR op_eq (pv 3) pe_int (nomark _)) (pss_one (ps_ret (pe_callB (call_min2 rfl) (by rfl) T.f_min bb_min (pa_cons (pv 2) (pa_cons (pe_op op_sub (pe_op op_add (pe_op op_shlW pe_int (pe_f F__law_draw (hr.mono (by decide)) passL (pa_cons (pv 0) (pa_cons (pe_op op_add (pv 1) pe_int) pa_nil)))) (pe_f F__law_draw (hr.mono (by decide)) passL (pa_cons (pv 0) (pa_cons pe_int pa_nil)))) pe_int) pa_nil)))))
        pss_nil)
        (pss_cons (ps_set (i := 4) nd rfl (Or.inl rfl) (pe_ix (x_list K) (p_lst (pa_cons pe_int (pa_cons pe_int pa_nil))) (pe_callTy call_int1 (by rfl) T.f_int bb_int (pa_cons (pe_cmpR op_eq (pv 1) pe_int (nomark _)) pa_nil)) (fun _ _ => rfl)))
        (pss_cons (ps_set (i := 5) nd rfl (Or.inl rfl) pe_int)
        (pss_cons (ps_for PassesOwn.never rfl (pi_range1 (by rfl) T.f_range (pa_cons (pe_op op_fdivW (pv 1) (pv 4)) pa_nil)) (pg_name (i := 6) nd rfl (Or.inl rfl))
        (pss_cons (ps_set (i := 7) nd rfl (Or.inl rfl) (p_lst (pa_cons pe_int (pa_cons pe_int (pa_cons pe_int (pa_cons pe_int (pa_cons (pe_op op_sub (pe_op op_shlW pe_int (pv 4)) pe_int) (pa_cons (pe_f F__law_draw (hr.mono (by decide)) passL (pa_cons (pv 0) (pa_cons (pe_op op_shlW pe_int (pv 4)) pa_nil))) pa_nil))))))))
        (pss_one (ps_set (i := 5) nd rfl (Or.inl rfl) (pe_op op_add (pe_op op_mul (pv 5) (pe_op op_shlW pe_int (pv 4))) (pe_ix (x_list K) (pv 7) (pe_f F__law_draw (hr.mono (by decide)) passL (pa_cons (pv 0) (pa_cons pe_int pa_nil))) (fun _ _ => rfl)))))))
        (pss_one (ps_ret (pv 5)))))))))), ?_⟩
  have x32 := e32
  have x128 := e128
  have x8 := e8
  have x16 := e16
  rcases hb with rfl | rfl
  ·
    walk_at "rd"
    refine ⟨_, _, rfl, hS, by omega, by omega, fun r H1 r0 r1 S1 B1 => ?_⟩
    walk_at "rd"
    refine ite2 (fun _ => ?_) (fun _ => ?_)
    · walk_at "rd"
      refine ⟨lz, fun p H1' s1' np hp => ?_⟩
      walk_at "rd"
      refine ⟨_, _, rfl, S1.same s1', by omega, by omega, fun r2 H2 r20 r21 S2 B2 => ?_⟩
      obtain ⟨v, e, i, rfl, i0, i1⟩ := pick (P := IntB 0 (2 ^ Int.toNat 32)) (xs := [V.int 0, V.int 1, V.int (1 * 2 ^ Int.toNat 32 - 1), V.int (1 * 2 ^ Int.toNat 32 - 1 - 1)]) r20 r21
        (fa_cons ⟨_, rfl, by omega, by omega⟩ (fa_cons ⟨_, rfl, by omega, by omega⟩ (fa_cons ⟨_, rfl, by omega, by omega⟩ (fa_cons ⟨_, rfl, by omega, by omega⟩ fa_nil))))
      refine ⟨_, _, _, _, rfl, rfl, SqL.of (B2 p _ hp (S1.ne np)), e, ?_⟩
      exact q _ _ i0 i1 S2 ((B1.same s1').trans B2)
    · walk_at "rd"
      refine ite2 (fun _ => ?_) (fun _ => ?_)
      · walk_at "rd"
        refine ⟨_, _, rfl, S1, by omega, by omega, fun r2 H2 r20 r21 S2 B2 => ?_⟩
        walk_at "rd"
        refine ⟨_, _, rfl, S2, by omega, by omega, fun r3 H3 r30 r31 S3 B3 => ?_⟩
        walk_at "rd"
        refine ⟨_, _, rfl, ?_⟩
        have pp := pow_pos' r2.toNat
        refine q _ _ ?_ ?_ S3 ((B1.trans B2).trans B3)
        · split <;> omega
        · split <;> omega
      · walk_at "rd"
        refine ⟨lz, fun p H1' s1' np hp => ?_⟩
        walk_at "rd"
        refine Or.inr ⟨_, rfl, ?_⟩
        refine ⟨_, _, _, _, rfl, rfl, SqL.of hp, atI_nat (j := 0) rfl, ?_⟩
        walk_at "rd"
        refine ⟨by decide, by decide, for_range (n := 4) (fun i σ H2 => ∃ (f : Int) (v6 v7 : Option V), σ = [some (.ref a), some (.int 32), some (.int (1 * 2 ^ Int.toNat 32 - 1)), some (.int r), some (.int 8), some (.int f), v6, v7] ∧ 0 ≤ f ∧ f < (256 : Int) ^ i ∧ Srcs H2 a ∧ But a H H2)
          ⟨0, none, none, rfl, by decide, by decide, S1.same s1', B1.same s1'⟩ ?_ ?_⟩
        · rintro i σ H2 hi ⟨f, v6, v7, rfl, f0, f1, S2, B2⟩
          walk_at "rd"
          refine ⟨_, _, rfl, S2, by omega, by omega, fun r2 H3 r20 r21 S3 B3 => ?_⟩
          walk_at "rd"
          refine ⟨lz, fun p2 H3' s3' np2 hp2 => ?_⟩
          walk_at "rd"
          refine ⟨_, _, rfl, S3.same s3', by omega, by omega, fun r3 H4 r30 r31 S4 B4 => ?_⟩
          obtain ⟨v, e, j, rfl, j0, j1⟩ := pick (P := IntB 0 256) (xs := [V.int 0, V.int 0, V.int 0, V.int 1, V.int (1 * 2 ^ Int.toNat 8 - 1), V.int r2]) r30 r31
            (fa_cons ⟨_, rfl, by omega, by omega⟩ (fa_cons ⟨_, rfl, by omega, by omega⟩ (fa_cons ⟨_, rfl, by omega, by omega⟩ (fa_cons ⟨_, rfl, by omega, by omega⟩ (fa_cons ⟨_, rfl, by omega, by omega⟩ (fa_cons ⟨_, rfl, by omega, by omega⟩ fa_nil))))))
          refine ⟨_, _, _, _, rfl, rfl, SqL.of (B4 p2 _ hp2 (S3.ne np2)), e, ?_⟩
          walk_at "rd"
          have d := dig_lt (B := 256) (by decide) f0 f1 j0 j1
          refine ⟨f * (1 * 2 ^ Int.toNat 8) + j, _, _, rfl, ?_, ?_, S4, (((B2.trans B3).same s3').trans B4)⟩
          · rw [Int.one_mul, e8]; exact d.1
          · rw [Int.one_mul, e8]; exact d.2
        · rintro σ H2 ⟨f, v6, v7, rfl, f0, f1, S2, B2⟩
          refine ⟨_, rfl, ?_⟩
          exact q _ _ f0 (by rw [e32]; exact f1) S2 B2
  ·
    walk_at "rd"
    refine ⟨_, _, rfl, hS, by omega, by omega, fun r H1 r0 r1 S1 B1 => ?_⟩
    walk_at "rd"
    refine ite2 (fun _ => ?_) (fun _ => ?_)
    · walk_at "rd"
      refine ⟨lz, fun p H1' s1' np hp => ?_⟩
      walk_at "rd"
      refine ⟨_, _, rfl, S1.same s1', by omega, by omega, fun r2 H2 r20 r21 S2 B2 => ?_⟩
      obtain ⟨v, e, i, rfl, i0, i1⟩ := pick (P := IntB 0 (2 ^ Int.toNat 128)) (xs := [V.int 0, V.int 1, V.int (1 * 2 ^ Int.toNat 128 - 1), V.int (1 * 2 ^ Int.toNat 128 - 1 - 1)]) r20 r21
        (fa_cons ⟨_, rfl, by omega, by omega⟩ (fa_cons ⟨_, rfl, by omega, by omega⟩ (fa_cons ⟨_, rfl, by omega, by omega⟩ (fa_cons ⟨_, rfl, by omega, by omega⟩ fa_nil))))
      refine ⟨_, _, _, _, rfl, rfl, SqL.of (B2 p _ hp (S1.ne np)), e, ?_⟩
      exact q _ _ i0 i1 S2 ((B1.same s1').trans B2)
    · walk_at "rd"
      refine ite2 (fun _ => ?_) (fun _ => ?_)
      · walk_at "rd"
        refine ⟨_, _, rfl, S1, by omega, by omega, fun r2 H2 r20 r21 S2 B2 => ?_⟩
        walk_at "rd"
        refine ⟨_, _, rfl, S2, by omega, by omega, fun r3 H3 r30 r31 S3 B3 => ?_⟩
        walk_at "rd"
        refine ⟨_, _, rfl, ?_⟩
        have pp := pow_pos' r2.toNat
        refine q _ _ ?_ ?_ S3 ((B1.trans B2).trans B3)
        · split <;> omega
        · split <;> omega
      · walk_at "rd"
        refine ⟨lz, fun p H1' s1' np hp => ?_⟩
        walk_at "rd"
        refine Or.inr ⟨_, rfl, ?_⟩
        refine ⟨_, _, _, _, rfl, rfl, SqL.of hp, atI_nat (j := 1) rfl, ?_⟩
        walk_at "rd"
        refine ⟨by decide, by decide, for_range (n := 8) (fun i σ H2 => ∃ (f : Int) (v6 v7 : Option V), σ = [some (.ref a), some (.int 128), some (.int (1 * 2 ^ Int.toNat 128 - 1)), some (.int r), some (.int 16), some (.int f), v6, v7] ∧ 0 ≤ f ∧ f < (65536 : Int) ^ i ∧ Srcs H2 a ∧ But a H H2)
          ⟨0, none, none, rfl, by decide, by decide, S1.same s1', B1.same s1'⟩ ?_ ?_⟩
        · rintro i σ H2 hi ⟨f, v6, v7, rfl, f0, f1, S2, B2⟩
          walk_at "rd"
          refine ⟨_, _, rfl, S2, by omega, by omega, fun r2 H3 r20 r21 S3 B3 => ?_⟩
          walk_at "rd"
          refine ⟨lz, fun p2 H3' s3' np2 hp2 => ?_⟩
          walk_at "rd"
          refine ⟨_, _, rfl, S3.same s3', by omega, by omega, fun r3 H4 r30 r31 S4 B4 => ?_⟩
          obtain ⟨v, e, j, rfl, j0, j1⟩ := pick (P := IntB 0 65536) (xs := [V.int 0, V.int 0, V.int 0, V.int 1, V.int (1 * 2 ^ Int.toNat 16 - 1), V.int r2]) r30 r31
            (fa_cons ⟨_, rfl, by omega, by omega⟩ (fa_cons ⟨_, rfl, by omega, by omega⟩ (fa_cons ⟨_, rfl, by omega, by omega⟩ (fa_cons ⟨_, rfl, by omega, by omega⟩ (fa_cons ⟨_, rfl, by omega, by omega⟩ (fa_cons ⟨_, rfl, by omega, by omega⟩ fa_nil))))))
          refine ⟨_, _, _, _, rfl, rfl, SqL.of (B4 p2 _ hp2 (S3.ne np2)), e, ?_⟩
          walk_at "rd"
          have d := dig_lt (B := 65536) (by decide) f0 f1 j0 j1
          refine ⟨f * (1 * 2 ^ Int.toNat 16) + j, _, _, rfl, ?_, ?_, S4, (((B2.trans B3).same s3').trans B4)⟩
          · rw [Int.one_mul, e16]; exact d.1
          · rw [Int.one_mul, e16]; exact d.2
        · rintro σ H2 ⟨f, v6, v7, rfl, f0, f1, S2, B2⟩
          refine ⟨_, rfl, ?_⟩
          exact q _ _ f0 (by rw [e128]; exact f1) S2 B2
def digS : Str := "0123456789"
def isDg (c : Nat) : Bool := decide (c ∈ digS.cps.toList)
def partFault (l : List Nat) : Option Str :=
  if l = [] then some ("empty" : Str) else if (l.all isDg) = false then some ("digits" : Str) else if 3 < l.length then some ("long" : Str) else if l.head? = some 48 ∧ l ≠ [48] then some ("zero" : Str)
  else if 255 < NumText.digitsVal l then some ("large" : Str) else none
def optV : Option Str → V
  | none => .non
  | some x => .str x
def firstFault : List (List Nat) → Option Str
  | [] => none
  | p :: r => match partFault p with
    | some w => some w
    | none => firstFault r
/-- cut at every s -/
def sp1 (s : Nat) : List Nat → List Nat → List (List Nat)
  | acc, [] => [acc]
  | acc, c :: r => if c = s then acc :: sp1 s [] r else sp1 s (acc ++ [c]) r
theorem sp1_spl (s : Nat) : ∀ (l acc : List Nat), spl [s] 0 acc l = sp1 s acc l
  | [], acc => spl_nil _ _ _
  | c :: r, acc => by
    by_cases h : c = s
    · subst h
      rw [spl_hit (by unfold pre; simp), show ([c] : List Nat).length - 1 = 0 from rfl, sp1_spl c r []]
      show _ = if c = c then acc :: sp1 c [] r else _
      rw [if_pos rfl]
    · rw [spl_miss (pre_of_head [] r h), sp1_spl s r]
      show _ = if c = s then _ else sp1 s (acc ++ [c]) r
      rw [if_neg h]
theorem sp1_len {s : Nat} : ∀ (l acc p : List Nat), p ∈ sp1 s acc l → p.length ≤ acc.length + l.length
  | [], acc, p, h => by
    have e : p = acc := List.mem_singleton.mp h
    rw [e]; simp
  | c :: r, acc, p, h => by
    unfold sp1 at h
    split at h
    · rcases List.mem_cons.mp h with e | h
      · rw [e]; simp
      · have := sp1_len r [] p h
        simp at this ⊢; omega
    · have := sp1_len r _ p h
      simp at this ⊢; omega
theorem sp1_many {s : Nat} : ∀ (l acc : List Nat), (sp1 s acc l).length ≤ l.length + 1
  | [], acc => by unfold sp1; simp
  | c :: r, acc => by
    unfold sp1
    split
    · have := sp1_many (s := s) r []
      simp; omega
    · have := sp1_many (s := s) r (acc ++ [c])
      simp; omega
def dots (t : List Nat) : List (List Nat) := sp1 46 [] t
theorem split_dots (z : Str) : (Txt.split z ("." : Str)).map tl = dots (tl z) := by
  have e : tl ("." : Str) = [46] := by decide +kernel
  rw [split_spl z ("." : Str) (by rw [e]; simp) (kind_ok (by decide +kernel)), e, sp1_spl]; rfl
theorem fault_none {l : List Nat} (h : partFault l = none) : l ≠ [] ∧ l.all isDg = true ∧ l.length ≤ 3 ∧ ¬ (l.head? = some 48 ∧ l ≠ [48]) ∧ NumText.digitsVal l ≤ 255 := by
  unfold partFault at h
  split at h
  · cases h
  split at h
  · cases h
  split at h
  · cases h
  split at h
  · cases h
  split at h
  · cases h
  rename_i h1 h2 h3 h4 h5
  exact ⟨h1, by simpa using h2, by omega, h4, by omega⟩
def quadFault (t : List Nat) : Option Str := if (dots t).length = 4 then firstFault (dots t) else some ("parts" : Str)
def quadVal (ps : List (List Nat)) : Nat := ps.foldl (fun a p => a * 256 + NumText.digitsVal p) 0
theorem isDg_iff {c : Nat} : isDg c = true ↔ 48 ≤ c ∧ c ≤ 57 := by
  have e : digS.cps.toList = [48, 49, 50, 51, 52, 53, 54, 55, 56, 57] := by decide +kernel
  unfold isDg
  rw [decide_eq_true_iff, e]
  simp only [List.mem_cons, List.not_mem_nil, or_false]
  omega
theorem allDg {l : List Nat} (h : l.all isDg = true) : NumText.AllDigits l := fun c hc => isDg_iff.mp (List.all_eq_true.mp h c hc)
abbrev s_part_fault : Stmt := (top 10)
abbrev N_part_fault : List Str := [("part" : Str), ("sign" : Str)]
theorem sc_part_fault : FnScope N_part_fault [("part" : Str)] (defScope s_part_fault) := ⟨rfl, rfl, rfl, by decide +kernel, rfl, by decide +kernel, by decide +kernel⟩
def sp_part_fault (K : Frag) : Sp := fun vs H Q E => ∃ z : Str, vs = [.str z] ∧ z.length ≤ 100000 ∧ ∀ H', Same H H' → Q (optV (partFault (tl z))) H'
theorem ok_part_fault (T : Tx K mg) : FnG P w K mg base 1 "part_fault" (sp_part_fault K) := by
  refine ⟨fnr T.d_part_fault sc_part_fault (fun vs H Q E h => by obtain ⟨z, rfl, hz, q⟩ := h; rfl) (fun _ _ _ _ _ _ us hl => match us, hl with | [_], _ => rfl) (fun cdv A outer s H vs Q E hr h => ?_), T.kp_part_fault, T.g_part_fault⟩
  have nd := sc_part_fault.nd
  have hu := hu_of hr
  obtain ⟨z, rfl, hz, q⟩ := h
  refine ⟨_, PSs.nox (pss_cons (ps_if (pt_cmpR op_eq (pv 0) pe_str (nomark _)) (pss_one (ps_ret pe_str))
        pss_nil)
        (pss_cons (ps_if (pt_not (pt_val (pe_callB (c_all K rfl) (by rfl) T.f_all bb_all (pa_cons (pe_lc (own := [("sign", 1)]) rfl nd (pi_str (pv 0)) (blkOk_by (own := [("sign", 1)]) (N := N_part_fault) (sc := defScope s_part_fault) (by decide +kernel)) (fun _ _ _ _ _ => (pg_name (i := 1) nd rfl (Or.inl rfl))) (fun _ _ _ _ _ => pts_nil) (fun _ _ _ _ _ => (pe_cmpR op_in_sign (pv 1) (pe_gs T.s_DIGITS) (by rfl)))) pa_nil)))) (pss_one (ps_ret pe_str))
        pss_nil)
        (pss_cons (ps_if (pt_cmpR op_gt (pe_callB (c_lenv K) (by rfl) T.f_len bb_len (pa_cons (pv 0) pa_nil)) pe_int (nomark _)) (pss_one (ps_ret pe_str))
        pss_nil)
        (pss_cons (ps_if (PW.pt (pw_and (pt_cmpR op_eq (pe_ix ix_str (pv 0) pe_int (fun _ _ => rfl)) pe_str (nomark _)) (pw_and1 (pt_cmpR op_ne (pv 0) pe_str (nomark _))))) (pss_one (ps_ret pe_str))
        pss_nil)
        (pss_one (ps_ret (pe_ifExp (pt_cmpR op_gt (pe_callTy call_int_str (by rfl) T.f_int bb_int (pa_cons (pv 0) pa_nil)) pe_int (nomark _)) pe_str pe_non))))))), ?_⟩
  walk_at "rd"
  refine ite2 (fun h => ?_) (fun h => ?_)
  · have e : z = "" := by
      have := of_decide_eq_true h
      injection this
    have e2 : partFault (tl z) = some ("empty" : Str) := by rw [e]; rfl
    rw [e2] at q
    exact q H (Same.refl H)
  have hne : tl z ≠ [] := fun e => h (decide_eq_true (by rw [ext_tl (x := z) (y := "") (by rw [e]; rfl)]))
  walk_at "rd"
  intro D nD
  refine lc_mp (tl z) sgn (fun c => .bl (isDg c)) walk_str (size_tl z) (by rw [← len_tl]; exact Nat.lt_of_le_of_lt hz (by decide)) ystr nD (fun _ _ => trivial) ?_ ?_
  · intro c hc H1 s1 Qe k
    refine ⟨rfl, _, rfl, _, _, rfl, rfl, k H1 (Same.refl _)⟩
  intro H1 s1 h1
  refine ⟨D, (tl z).map isDg, rfl, ?_, ?_⟩
  · have e : ((tl z).map isDg).map V.bl = (tl z).map (fun c => V.bl (isDg c)) := by rw [List.map_map]; rfl
    rw [e]; exact SqL.of h1
  have ea : ((tl z).map isDg).all id = (tl z).all isDg := by rw [List.all_map]; rfl
  walk_at "rd"
  rw [ea]
  cases hd : (tl z).all isDg with
  | false =>
    refine iteT ?_
    have e2 : partFault (tl z) = some ("digits" : Str) := by unfold partFault; rw [if_neg hne, if_pos hd]
    rw [e2] at q
    exact q H1 s1
  | true =>
  refine iteF ?_
  walk_at "rd"
  refine ⟨_, z.length, rfl, ⟨Nat.le_trans hz (by decide), rfl⟩, ?_⟩
  walk_at "rd"
  have hlen := len_tl z
  refine ite2 (fun h3 => ?_) (fun h3 => ?_)
  · have h4 : (3 : Int) < z.length := of_decide_eq_true h3
    have e2 : partFault (tl z) = some ("long" : Str) := by unfold partFault; rw [if_neg hne, if_neg (by rw [hd]; simp), if_pos (by omega)]
    rw [e2] at q
    exact q H1 s1
  have h4 : ¬ (3 : Int) < z.length := fun w => h3 (decide_eq_true w)
  obtain ⟨c0, r, hcr⟩ : ∃ c0 r, tl z = c0 :: r := by
    cases e : tl z with
    | nil => exact absurd e hne
    | cons c r => exact ⟨c, r, rfl⟩
  walk_at "rd"
  refine ⟨_, _, c0, rfl, rfl, Nat.le_trans hz (by decide), atI_nat (j := 0) (by show (tl z)[0]? = _; rw [hcr]; rfl), ?_⟩
  walk_at "rd"
  refine ite2 (fun h5 => ?_) (fun h5 => ?_)
  · have c48 : c0 = 48 := by
      have e := of_decide_eq_true h5
      injection e with e
      injection e with e
      have e2 : [c0] = [48] := congrArg Array.toList e
      injection e2
    walk_at "rd"
    refine ite2 (fun h6 => ?_) (fun h6 => ?_)
    · have ne0 : tl z ≠ [48] := fun e => by
        have e3 : z = ("0" : Str) := ext_tl (by rw [e]; rfl)
        rw [e3] at h6
        simp at h6
      have e2 : partFault (tl z) = some ("zero" : Str) := by unfold partFault; rw [if_neg hne, if_neg (by rw [hd]; simp), if_neg (by omega), if_pos ⟨by rw [hcr, c48]; rfl, ne0⟩]
      rw [e2] at q
      exact q H1 s1
    · have hh : ¬ ((tl z).head? = some 48 ∧ tl z ≠ [48]) := fun w => h6 (by
        have ne : ¬ V.str z = V.str ("0" : Str) := fun e => by
          injection e with e
          exact w.2 (by rw [e]; rfl)
        rw [decide_eq_false ne]; rfl)
      walk_at "rd"
      refine ⟨_, _, rfl, intText_digits (allDg hd) hne (by omega), by omega, ?_⟩
      walk_at "rd"
      refine ite2 (fun h7 => ?_) (fun h7 => ?_)
      · have h8 : (255 : Int) < ((NumText.digitsVal (tl z) : Nat) : Int) := of_decide_eq_true h7
        have e2 : partFault (tl z) = some ("large" : Str) := by unfold partFault; rw [if_neg hne, if_neg (by rw [hd]; simp), if_neg (by omega), if_neg hh, if_pos (by omega)]
        rw [e2] at q
        exact q H1 s1
      · have h8 : ¬ (255 : Int) < ((NumText.digitsVal (tl z) : Nat) : Int) := fun w => h7 (decide_eq_true w)
        have e2 : partFault (tl z) = none := by unfold partFault; rw [if_neg hne, if_neg (by rw [hd]; simp), if_neg (by omega), if_neg hh, if_neg (by omega)]
        rw [e2] at q
        exact q H1 s1
  · have hh : ¬ ((tl z).head? = some 48 ∧ tl z ≠ [48]) := fun w => h5 (by
      have e : c0 = 48 := by
        have := w.1
        rw [hcr] at this
        injection this
      rw [e]; decide)
    refine iteF ?_
    walk_at "rd"
    refine ⟨_, _, rfl, intText_digits (allDg hd) hne (by omega), by omega, ?_⟩
    walk_at "rd"
    refine ite2 (fun h7 => ?_) (fun h7 => ?_)
    · have h8 : (255 : Int) < ((NumText.digitsVal (tl z) : Nat) : Int) := of_decide_eq_true h7
      have e2 : partFault (tl z) = some ("large" : Str) := by unfold partFault; rw [if_neg hne, if_neg (by rw [hd]; simp), if_neg (by omega), if_neg hh, if_pos (by omega)]
      rw [e2] at q
      exact q H1 s1
    · have h8 : ¬ (255 : Int) < ((NumText.digitsVal (tl z) : Nat) : Int) := fun w => h7 (decide_eq_true w)
      have e2 : partFault (tl z) = none := by unfold partFault; rw [if_neg hne, if_neg (by rw [hd]; simp), if_neg (by omega), if_neg hh, if_neg (by omega)]
      rw [e2] at q
      exact q H1 s1
abbrev s_quad_fault : Stmt := (top 11)
abbrev N_quad_fault : List Str := [("text" : Str), ("parts" : Str), ("part" : Str), ("why" : Str)]
theorem sc_quad_fault : FnScope N_quad_fault [("text" : Str)] (defScope s_quad_fault) := ⟨rfl, rfl, rfl, by decide +kernel, rfl, by decide +kernel, by decide +kernel⟩
def sp_quad_fault (K : Frag) : Sp := fun vs H Q E => ∃ z : Str, vs = [.str z] ∧ z.length ≤ 100000 ∧ ∀ H', Same H H' → Q (optV (quadFault (tl z))) H'
theorem ok_quad_fault (T : Tx K mg) : FnG P w K mg base 2 "quad_fault" (sp_quad_fault K) := by
  have F_part_fault := ok_part_fault (P := P) (w := w) (base := base) T
  refine ⟨fnr T.d_quad_fault sc_quad_fault (fun vs H Q E h => by obtain ⟨z, rfl, hz, q⟩ := h; rfl) (fun _ _ _ _ _ _ us hl => match us, hl with | [_], _ => rfl) (fun cdv A outer s H vs Q E hr h => ?_), T.kp_quad_fault, T.g_quad_fault⟩
  have nd := sc_quad_fault.nd
  have hu := hu_of hr
  obtain ⟨z, rfl, hz, q⟩ := h
  refine ⟨_, PSs.nox (pss_cons (ps_set (i := 1) nd rfl (Or.inl rfl) (pe_m1 PySem.F.slot_str_split PySem.F.type_str_split m_split (pv 0) pe_str))
        (pss_cons (ps_if (pt_cmpR op_ne (pe_callB (c_lenq K) (by rfl) T.f_len bb_len (pa_cons (pv 1) pa_nil)) pe_int (nomark _)) (pss_one (ps_ret pe_str))
        pss_nil)
        (pss_cons (ps_for PassesOwn.never rfl (i_list K (pv 1)) (pg_name (i := 2) nd rfl (Or.inl rfl))
        (pss_one (ps_ifW (ptw_cmp op_notN (pew_named (i := 3) nd rfl (Or.inl rfl) (pew_of (pe_f F_part_fault (hr.mono (by decide)) passL (pa_cons (pv 2) pa_nil)))) pe_non (nomark _)) (pss_one (ps_ret (pv 3))) pss_nil)))
        (pss_one (ps_ret pe_non))))), ?_⟩
  have hlen := len_tl z
  walk_at "rd"
  refine ⟨⟨_, rfl⟩, _, _, rfl, rfl, by decide, Nat.le_trans (Nat.add_le_add_right hz 2) (by decide), fun p H1 s1 np hp => ?_⟩
  have hsp := split_dots z
  have hln : (Txt.split z ("." : Str)).length = (dots (tl z)).length := by rw [← hsp, List.length_map]
  walk_at "rd"
  refine ⟨_, _, rfl, Or.inl (SqL.of hp), ?_⟩
  walk_at "rd"
  refine ite2 (fun h => ?_) (fun h => ?_)
  · have h4 : (dots (tl z)).length ≠ 4 := fun e => by
      rw [List.length_map, hln, e] at h
      simp at h
    have e2 : quadFault (tl z) = some ("parts" : Str) := by unfold quadFault; rw [if_neg h4]
    rw [e2] at q
    exact q _ s1
  have h4 : (dots (tl z)).length = 4 := by
    rw [List.length_map, hln] at h
    have h2 : V.int ((dots (tl z)).length : Int) = V.int 4 := by simpa using h
    injection h2 with h2
    omega
  have eq : quadFault (tl z) = firstFault (dots (tl z)) := by unfold quadFault; rw [if_pos h4]
  rw [eq] at q
  walk_at "rd"
  refine ⟨⟨_, SqL.of hp⟩, for_list (K := K) (a := p) (xs := (Txt.split z ("." : Str)).map V.str) (fun i σ H2 => ∃ v2 v3 : Option V, σ = [some (.str z), some (.ref p), v2, v3] ∧ Same H1 H2 ∧ firstFault (dots (tl z)) = firstFault ((dots (tl z)).drop i))
    ⟨none, none, rfl, Same.refl _, rfl⟩ (fun i σ H2 _ ⟨_, _, _, s2, _⟩ => s2.seq (SqL.of hp)) ?_ ?_⟩
  · rintro i y σ H2 hi ⟨v2, v3, rfl, s2, ff⟩
    rw [List.getElem?_map] at hi
    cases hx : (Txt.split z ("." : Str))[i]? with
    | none => rw [hx] at hi; cases hi
    | some x =>
    rw [hx] at hi
    cases hi
    have hd : (dots (tl z))[i]? = some (tl x) := by rw [← hsp, List.getElem?_map, hx]; rfl
    have hxl : x.length ≤ 100000 := by
      have hm : tl x ∈ dots (tl z) := List.mem_of_getElem? hd
      have := sp1_len (tl z) [] (tl x) hm
      rw [len_tl x]
      have e0 : ([] : List Nat).length = 0 := rfl
      omega
    obtain ⟨hi2, hd2⟩ := List.getElem?_eq_some_iff.mp hd
    have hdrop : (dots (tl z)).drop i = tl x :: (dots (tl z)).drop (i + 1) := by rw [← hd2]; exact List.drop_eq_getElem_cons hi2
    walk_at "rd"
    refine ⟨hxl, fun H3 s3 => ?_⟩
    cases hf : partFault (tl x) with
    | some why =>
      walk_at "rd"
      have e : firstFault (dots (tl z)) = some why := by rw [ff, hdrop]; unfold firstFault; rw [hf]
      rw [e] at q
      exact q H3 (s1.trans (s2.trans s3))
    | none =>
      walk_at "rd"
      refine ⟨_, _, rfl, s2.trans s3, ?_⟩
      rw [ff, hdrop]
      show (match partFault (tl x) with | some w => some w | none => firstFault ((dots (tl z)).drop (i + 1))) = _
      rw [hf]
  · rintro σ H2 ⟨v2, v3, rfl, s2, ff⟩
    rw [List.length_map, hln, List.drop_length] at ff
    rw [ff] at q
    exact q H2 (s1.trans s2)
theorem first_none : ∀ {ps : List (List Nat)}, firstFault ps = none → ∀ p ∈ ps, partFault p = none
  | [], _, p, h => by cases h
  | x :: r, e, p, h => by
    unfold firstFault at e
    cases hf : partFault x with
    | some w => rw [hf] at e; cases e
    | none =>
      rw [hf] at e
      rcases List.mem_cons.mp h with q | q
      · rw [q]; exact hf
      · exact first_none e p q
theorem first_of : ∀ {ps : List (List Nat)}, (∀ p ∈ ps, partFault p = none) → firstFault ps = none
  | [], _ => rfl
  | x :: r, h => by
    unfold firstFault
    rw [h x (List.mem_cons_self ..)]
    exact first_of fun p hp => h p (List.mem_cons_of_mem _ hp)
theorem quad_none {t : List Nat} (h : quadFault t = none) : (dots t).length = 4 ∧ ∀ p ∈ dots t, partFault p = none := by
  unfold quadFault at h
  split at h
  · rename_i h4
    exact ⟨h4, first_none h⟩
  · cases h
/-- a number as a text -/
def numS (i : Int) : Str := Str.ofString (toString i)
def quadParts (n : Int) : List Str := [24, 16, 8, 0].map fun s : Nat => numS (n / 2 ^ s % 256)
theorem numS_tl {i : Int} (h : 0 ≤ i) : tl (numS i) = numL i.toNat := by
  obtain ⟨k, rfl⟩ := Int.eq_ofNat_of_zero_le h
  unfold numS
  rw [tl_num]; rfl
theorem numS_len {i : Int} (h0 : 0 ≤ i) (h1 : i < 256) : (numS i).length ≤ 3 := by
  rw [len_tl, numS_tl h0]
  exact numL_len (by decide) (by omega)
theorem part_b (n : Int) (s : Nat) : 0 ≤ n / 2 ^ s % 256 ∧ n / 2 ^ s % 256 < 256 := ⟨Int.emod_nonneg _ (by decide), Int.emod_lt_of_pos _ (by decide)⟩
theorem quadParts_sz {n : Int} (h : 0 ≤ n) : ((quadParts n).map fun x => x.length).sum + (quadParts n).length * ("." : Str).length ≤ 16777216 := by
  have a := fun s => numS_len (part_b n s).1 (part_b n s).2
  have l1 : ("." : Str).length = 1 := by decide +kernel
  rw [l1]
  unfold quadParts
  simp only [List.map_cons, List.map_nil, List.sum_cons, List.sum_nil, List.length_cons, List.length_nil]
  have a1 := a 24
  have a2 := a 16
  have a3 := a 8
  have a4 := a 0
  omega
def quadS (n : Int) : Str := Txt.join ("." : Str) (quadParts n)
theorem joinL_len (S : List Nat) : ∀ ps : List (List Nat), (joinL S ps).length ≤ (ps.map List.length).sum + ps.length * S.length
  | [] => by simp [joinL]
  | [p] => by simp [joinL]
  | p :: q :: r => by
    have ih := joinL_len S (q :: r)
    have e : joinL S (p :: q :: r) = p ++ (S ++ joinL S (q :: r)) := rfl
    rw [e]
    simp only [List.length_append, List.map_cons, List.sum_cons, List.length_cons] at ih ⊢
    rw [Nat.succ_mul]
    omega
theorem quadS_tl (n : Int) : tl (quadS n) = joinL [46] ((quadParts n).map tl) := by
  unfold quadS
  rw [join_eq, tl_join]
  have e : tl ("." : Str) = [46] := by decide +kernel
  rw [e]
theorem joinL_mem {S : List Nat} {c : Nat} : ∀ {ps : List (List Nat)}, c ∈ joinL S ps → c ∈ S ∨ ∃ p ∈ ps, c ∈ p
  | [], h => by cases h
  | [p], h => .inr ⟨p, List.mem_singleton.mpr rfl, h⟩
  | p :: q :: r, h => by
    have e : joinL S (p :: q :: r) = p ++ (S ++ joinL S (q :: r)) := rfl
    rw [e] at h
    rcases List.mem_append.mp h with h | h
    · exact .inr ⟨p, List.mem_cons_self .., h⟩
    · rcases List.mem_append.mp h with h | h
      · exact .inl h
      · rcases joinL_mem h with h | ⟨x, hx, h⟩
        · exact .inl h
        · exact .inr ⟨x, List.mem_cons_of_mem _ hx, h⟩
theorem strOk_of {x : Str} (h : ∀ c ∈ tl x, c < 1114112) : PyData.strOk x = true := by
  unfold PyData.strOk
  rw [← Array.all_toList, List.all_eq_true]
  exact fun c hc => decide_eq_true (h c hc)
theorem numL_lt256 {n c : Nat} (h : c ∈ numL n) : c < 58 := by
  have := numL_digits n c h
  omega
theorem quadS_ok {n : Int} (h : 0 ≤ n) : PyData.strOk (quadS n) = true := by
  refine strOk_of fun c hc => ?_
  rw [quadS_tl] at hc
  rcases joinL_mem hc with hc | ⟨p, hp, hc⟩
  · rw [List.mem_singleton.mp hc]; decide
  · obtain ⟨x, hx, rfl⟩ := List.mem_map.mp hp
    obtain ⟨s, _, rfl⟩ := List.mem_map.mp hx
    rw [numS_tl (part_b n s).1] at hc
    have := numL_lt256 hc
    omega
theorem quadS_len {n : Int} (h : 0 ≤ n) : (quadS n).length ≤ 16 := by
  rw [len_tl, quadS_tl]
  refine Nat.le_trans (joinL_len _ _) ?_
  have a := fun s => numS_len (part_b n s).1 (part_b n s).2
  unfold quadParts
  simp only [List.map_cons, List.map_nil, List.sum_cons, List.sum_nil, List.length_cons, List.length_nil, ← len_tl]
  have a1 := a 24
  have a2 := a 16
  have a3 := a 8
  have a4 := a 0
  omega
theorem quadS_sz {n : Int} (h : 0 ≤ n) : (quadS n).length ≤ sizeLine := Nat.le_trans (quadS_len h) (by decide)
abbrev s_read_quad : Stmt := (top 12)
abbrev N_read_quad : List Str := [("text" : Str), ("why" : Str), ("found" : Str), ("part" : Str)]
theorem sc_read_quad : FnScope N_read_quad [("text" : Str)] (defScope s_read_quad) := ⟨rfl, rfl, rfl, by decide +kernel, rfl, by decide +kernel, by decide +kernel⟩
def sp_read_quad (K : Frag) : Sp := fun vs H Q E => ∃ z : Str, vs = [.str z] ∧ z.length ≤ 100000 ∧ quadFault (tl z) = none ∧ ∀ H', Same H H' → Q (.int (quadVal (dots (tl z)))) H'
theorem ok_read_quad (T : Tx K mg) : FnG P w K mg base 3 "read_quad" (sp_read_quad K) := by
  have F_quad_fault := ok_quad_fault (P := P) (w := w) (base := base) T
  refine ⟨fnr T.d_read_quad sc_read_quad (fun vs H Q E h => by obtain ⟨z, rfl, hz, hq, q⟩ := h; rfl) (fun _ _ _ _ _ _ us hl => match us, hl with | [_], _ => rfl) (fun cdv A outer s H vs Q E hr h => ?_), T.kp_read_quad, T.g_read_quad⟩
  have nd := sc_read_quad.nd
  have hu := hu_of hr
  obtain ⟨z, rfl, hz, hq, q⟩ := h
  refine ⟨_, PSs.nox (pss_cons (ps_set (i := 1) nd rfl (Or.inl rfl) (pe_f F_quad_fault (hr.mono (by decide)) passL (pa_cons (pv 0) pa_nil)))
        (pss_cons (ps_if (pt_cmpR op_notN (pv 1) pe_non (nomark _)) (pss_one ps_never)
        pss_nil)
        (pss_cons (ps_set (i := 2) nd rfl (Or.inl rfl) pe_int)
        (pss_cons (ps_for PassesOwn.never rfl (i_list K (pe_m1 PySem.F.slot_str_split PySem.F.type_str_split m_split (pv 0) pe_str)) (pg_name (i := 3) nd rfl (Or.inl rfl))
        (pss_one (ps_set (i := 2) nd rfl (Or.inl rfl) (pe_op op_add (pe_op op_mul (pv 2) pe_int) (pe_callTy call_int_str (by rfl) T.f_int bb_int (pa_cons (pv 3) pa_nil))))))
        (pss_one (ps_ret (pv 2))))))), ?_⟩
  obtain ⟨hd4, hps⟩ := quad_none hq
  walk_at "rd"
  refine ⟨hz, fun H1 s1 => ?_⟩
  rw [hq]
  walk_at "rd"
  refine ⟨⟨_, rfl⟩, _, _, rfl, rfl, by decide, Nat.le_trans (Nat.add_le_add_right hz 2) (by decide), fun p H1' s1' np hp => ?_⟩
  have hsp := split_dots z
  have hln : (Txt.split z ("." : Str)).length = (dots (tl z)).length := by rw [← hsp, List.length_map]
  have s2 : Same H H1' := s1.trans s1'
  refine ⟨_, rfl, ⟨_, SqL.of hp⟩, for_list (K := K) (a := p) (xs := (Txt.split z ("." : Str)).map V.str) (fun i σ H2 => ∃ v3 : Option V, σ = [some (.str z), some .non, some (.int (quadVal ((dots (tl z)).take i))), v3] ∧ Same H1' H2)
    ⟨none, rfl, Same.refl _⟩ (fun i σ H2 _ ⟨_, _, s3⟩ => s3.seq (SqL.of hp)) ?_ ?_⟩
  · rintro i y σ H2 hi ⟨v3, rfl, s3⟩
    rw [List.getElem?_map] at hi
    cases hx : (Txt.split z ("." : Str))[i]? with
    | none => rw [hx] at hi; cases hi
    | some x =>
    rw [hx] at hi
    cases hi
    have hd : (dots (tl z))[i]? = some (tl x) := by rw [← hsp, List.getElem?_map, hx]; rfl
    obtain ⟨f1, f2, f3, f4, f5⟩ := fault_none (hps _ (List.mem_of_getElem? hd))
    have hxl := len_tl x
    walk_at "rd"
    refine ⟨_, _, rfl, intText_digits (allDg f2) f1 (by omega), by omega, ?_⟩
    walk_at "rd"
    refine ⟨some (V.str x), ?_, s3⟩
    rw [take_succ' hd]
    unfold quadVal
    rw [List.foldl_append]
    show _ = [_, _, some (V.int (((List.foldl (fun a p => a * 256 + NumText.digitsVal p) 0 (List.take i (dots (tl z)))) * 256 + NumText.digitsVal (tl x) : Nat) : Int)), _]
    rw [Int.natCast_add, Int.natCast_mul]; rfl
  · rintro σ H2 ⟨v3, rfl, s3⟩
    refine ⟨_, rfl, ?_⟩
    rw [List.length_map, hln, List.take_length]
    exact q H2 (s2.trans s3)
abbrev s_quad_parts : Stmt := (top 13)
abbrev N_quad_parts : List Str := [("number" : Str), ("shift" : Str)]
theorem sc_quad_parts : FnScope N_quad_parts [("number" : Str)] (defScope s_quad_parts) := ⟨rfl, rfl, rfl, by decide +kernel, rfl, by decide +kernel, by decide +kernel⟩
def sp_quad_parts (K : Frag) : Sp := fun vs H Q E => ∃ n : Int, vs = [.int n] ∧ 0 ≤ n ∧ n < 2 ^ 130 ∧ ∀ (p : Addr) (H' : Hp), Same H H' → H p = none → H' p = some (.lst ((quadParts n).map V.str)) → Q (.ref p) H'
theorem ok_quad_parts (T : Tx K mg) : FnG P w K mg base 1 "quad_parts" (sp_quad_parts K) := by
  refine ⟨fnr T.d_quad_parts sc_quad_parts (fun vs H Q E h => by obtain ⟨n, rfl, h0, h1, q⟩ := h; rfl) (fun _ _ _ _ _ _ us hl => match us, hl with | [_], _ => rfl) (fun cdv A outer s H vs Q E hr h => ?_), T.kp_quad_parts, T.g_quad_parts⟩
  have nd := sc_quad_parts.nd
  have hu := hu_of hr
  obtain ⟨n, rfl, h0, h1, q⟩ := h
  refine ⟨_, PSs.nox (pss_one (ps_ret (pe_lc (own := [("shift", 1)]) rfl nd (i_tup K (p_tup (pa_cons pe_int (pa_cons pe_int (pa_cons pe_int (pa_cons pe_int pa_nil)))))) (blkOk_by (own := [("shift", 1)]) (N := N_quad_parts) (sc := defScope s_quad_parts) (by decide +kernel)) (fun _ _ _ _ _ => (pg_name (i := 1) nd rfl (Or.inl rfl))) (fun _ _ _ _ _ => pts_nil) (fun _ _ _ _ _ => (pe_joined1 (pe_fmt (pe_op op_and (pe_op op_shr (pv 0) (pv 1)) pe_int))))))), ?_⟩
  refine ⟨lz, fun p H0 s0 np hp => ?_⟩
  refine ⟨p, rfl, ⟨_, SqT.of hp⟩, fun D nD => ?_⟩
  refine lc_mp ([24, 16, 8, 0] : List Nat) (fun s : Nat => V.int (s : Int)) (fun s : Nat => V.str (numS (n / 2 ^ s % 256))) (walk_tup (K := K) (a := p) (xs := ([24, 16, 8, 0] : List Nat).map fun s : Nat => V.int (s : Int))) rfl (by decide) yat_map nD (fun H' s' => SqT.of (s' _ _ hp)) ?_ ?_
  · intro c hc H1 s1 Qe k
    refine ⟨rfl, ?_⟩
    walk_at "rd"
    have nn : 0 ≤ n / 2 ^ ((c : Int)).toNat := Int.ediv_nonneg h0 (by have := pow_pos' ((c : Int)).toNat; omega)
    have ea := and255 nn
    refine Or.inr ⟨_, rfl, ?_, ?_⟩
    · rw [ea]; exact log_small (by omega) (by omega)
    · rw [ea]; exact k H1 (Same.refl _)
  · intro H1 s1 h1
    refine q D H1 (s0.trans s1) (s0.free nD) ?_
    rw [h1]; rfl
abbrev s_quad_text : Stmt := (top 14)
abbrev N_quad_text : List Str := [("number" : Str)]
theorem sc_quad_text : FnScope N_quad_text [("number" : Str)] (defScope s_quad_text) := ⟨rfl, rfl, rfl, by decide +kernel, rfl, by decide +kernel, by decide +kernel⟩
def sp_quad_text (K : Frag) : Sp := fun vs H Q E => ∃ n : Int, vs = [.int n] ∧ 0 ≤ n ∧ n < 2 ^ 130 ∧ ∀ H', Same H H' → Q (.str (quadS n)) H'
theorem ok_quad_text (T : Tx K mg) : FnG P w K mg base 2 "quad_text" (sp_quad_text K) := by
  have F_quad_parts := ok_quad_parts (P := P) (w := w) (base := base) T
  refine ⟨fnr T.d_quad_text sc_quad_text (fun vs H Q E h => by obtain ⟨n, rfl, h0, h1, q⟩ := h; rfl) (fun _ _ _ _ _ _ us hl => match us, hl with | [_], _ => rfl) (fun cdv A outer s H vs Q E hr h => ?_), T.kp_quad_text, T.g_quad_text⟩
  have nd := sc_quad_text.nd
  have hu := hu_of hr
  obtain ⟨n, rfl, h0, h1, q⟩ := h
  refine ⟨_, PSs.nox (pss_one (ps_ret (pe_join pe_str (pe_f F_quad_parts (hr.mono (by decide)) passL (pa_cons (pv 0) pa_nil))))), ?_⟩
  refine ⟨⟨_, rfl⟩, ?_⟩
  walk_at "rd"
  refine ⟨h0, h1, fun p H1 s1 np hp => ?_⟩
  refine ⟨_, _, _, rfl, rfl, Or.inl (SqL.of hp), ?_, ?_⟩
  · exact quadParts_sz h0
  exact q H1 s1
abbrev s_is_integer : Stmt := (top 29)
abbrev N_is_integer : List Str := [("thing" : Str)]
theorem sc_is_integer : FnScope N_is_integer [("thing" : Str)] (defScope s_is_integer) := ⟨rfl, rfl, rfl, by decide +kernel, rfl, by decide +kernel, by decide +kernel⟩
def sp_is_integer (K : Frag) : Sp := fun vs H Q E => ∃ (x : V) (t : Value) (b1 b2 : Bool), vs = [x] ∧ TyX K H x t ∧ kitOne K t (.type "int") = some b1 ∧ kitOne K t (.type "bool") = some b2 ∧ Q (.bl (b1 && !b2)) H
theorem ok_is_integer (T : Tx K mg) : FnG P w K mg base 1 "is_integer" (sp_is_integer K) := by
  refine ⟨fnr T.d_is_integer sc_is_integer (fun vs H Q E h => by obtain ⟨x, t, b1, b2, rfl, ht, k1, k2, q⟩ := h; rfl) (fun _ _ _ _ _ _ us hl => match us, hl with | [_], _ => rfl) (fun cdv A outer s H vs Q E hr h => ?_), T.kp_is_integer, T.g_is_integer⟩
  have nd := sc_is_integer.nd
  have hu := hu_of hr
  obtain ⟨x, t, b1, b2, rfl, ht, k1, k2, q⟩ := h
  refine ⟨_, PSs.nox (pss_one (ps_ret (pe_and (pe_callB (c_isi K) (by rfl) T.f_isinstance bb_isinstance (pa_cons (pv 0) (pa_cons (pe_bltn (v := .ty "int") (u := .type "int") rfl T.f_int bb_int rfl) pa_nil))) (pe_one (pe_not (pe_callB (c_isi K) (by rfl) T.f_isinstance bb_isinstance (pa_cons (pv 0) (pa_cons (pe_bltn (v := .ty "bool") (u := .type "bool") rfl T.f_bool bb_bool rfl) pa_nil)))))))), ?_⟩
  walk_at "rd"
  refine ⟨_, _, _, _, b1, rfl, .ty _, ht, k1, ?_⟩
  cases b1 with
  | false =>
    walk_at "rd"
    exact q
  | true =>
    walk_at "rd"
    refine ⟨_, _, _, _, b2, rfl, .ty _, ht, k2, ?_⟩
    walk_at "rd"
    exact q
theorem kit_ii {K : Frag} : kitOne K (.type "int") (.type "int") = some true := kit_ty (by decide +kernel)
theorem kit_ib {K : Frag} : kitOne K (.type "int") (.type "bool") = some false := kit_ty (by decide +kernel)
theorem kit_si {K : Frag} : kitOne K (.type "str") (.type "int") = some false := kit_ty (by decide +kernel)
theorem kit_sb {K : Frag} : kitOne K (.type "str") (.type "bool") = some false := kit_ty (by decide +kernel)
theorem kit_ss {K : Frag} : kitOne K (.type "str") (.type "str") = some true := kit_ty (by decide +kernel)
theorem kit_bb {K : Frag} : kitOne K (.type "bool") (.type "bool") = some true := kit_ty (by decide +kernel)
abbrev s_is_from_int : Stmt := (top 30)
abbrev N_is_from_int : List Str := [("thing" : Str), ("low" : Str), ("high" : Str)]
theorem sc_is_from_int : FnScope N_is_from_int [("thing" : Str), ("low" : Str), ("high" : Str)] (defScope s_is_from_int) := ⟨rfl, rfl, rfl, by decide +kernel, rfl, by decide +kernel, by decide +kernel⟩
def sp_is_from_int (K : Frag) : Sp := fun vs H Q E => ∃ i lo hi : Int, vs = [.int i, .int lo, .int hi] ∧ Q (.bl (decide (lo ≤ i) && decide (i ≤ hi))) H
theorem ok_is_from_int (T : Tx K mg) : FnG P w K mg base 2 "is_from" (sp_is_from_int K) := by
  have F_is_integer := ok_is_integer (P := P) (w := w) (base := base) T
  refine ⟨fnr T.d_is_from sc_is_from_int (fun vs H Q E h => by obtain ⟨i, lo, hi, rfl, q⟩ := h; rfl) (fun _ _ _ _ _ _ us hl => match us, hl with | [_, _, _], _ => rfl) (fun cdv A outer s H vs Q E hr h => ?_), T.kp_is_from, T.g_is_from⟩
  have nd := sc_is_from_int.nd
  have hu := hu_of hr
  obtain ⟨i, lo, hi, rfl, q⟩ := h
  refine ⟨_, PSs.nox (pss_one (ps_ret (pe_and (pe_f F_is_integer (hr.mono (by decide)) passL (pa_cons (pv 0) pa_nil)) (pe_one (pe_chain op_le op_le (pv 1) (pv 0) (pv 2)))))), ?_⟩
  walk_at "rd"
  refine ⟨_, _, true, false, rfl, .base (.int i), kit_ii, kit_ib, ?_⟩
  walk_at "rd"
  cases h : decide (lo ≤ i) with
  | false =>
    rw [h] at q
    exact q
  | true =>
    rw [h] at q
    walk_at "rd"
    exact q
abbrev s_number_of_int : Stmt := (top 32)
abbrev N_number_of_int : List Str := [("value" : Str), ("width" : Str)]
theorem sc_number_of_int : FnScope N_number_of_int [("value" : Str), ("width" : Str)] (defScope s_number_of_int) := ⟨rfl, rfl, rfl, by decide +kernel, rfl, by decide +kernel, by decide +kernel⟩
def sp_number_of_int (K : Frag) : Sp := fun vs H Q E => ∃ i b : Int, vs = [.int i, .int b] ∧ (b = 32 ∨ b = 128) ∧ 0 ≤ i ∧ i < 2 ^ b.toNat ∧ Q (.int i) H
theorem ok_number_of_int (T : Tx K mg) : FnG P w K mg base 3 "number_of" (sp_number_of_int K) := by
  have F_is_integer := ok_is_integer (P := P) (w := w) (base := base) T
  have F_is_from_int := ok_is_from_int (P := P) (w := w) (base := base) T
  refine ⟨fnr T.d_number_of sc_number_of_int (fun vs H Q E h => by obtain ⟨i, b, rfl, hb, h0, h1, q⟩ := h; rfl) (fun _ _ _ _ _ _ us hl => match us, hl with | [_, _], _ => rfl) (fun cdv A outer s H vs Q E hr h => ?_), T.kp_number_of, T.g_number_of⟩
  have nd := sc_number_of_int.nd
  have hu := hu_of hr
  obtain ⟨i, b, rfl, hb, h0, h1, q⟩ := h
  refine ⟨_, PSs.nox (pss_cons (ps_if (pt_val (pe_f F_is_integer (hr.mono (by decide)) passL (pa_cons (pv 0) pa_nil))) (pss_cons (ps_if (pt_not (pt_val (pe_f F_is_from_int (hr.mono (by decide)) passL (pa_cons (pv 0) (pa_cons pe_int (pa_cons (pe_op op_sub (pe_op op_shlW pe_int (pv 1)) pe_int) pa_nil)))))) (pss_one ps_never)
        pss_nil)
        (pss_one (ps_ret (pv 0))))
        pss_nil)
        pss_never), ?_⟩
  have hb2 : 0 ≤ b ∧ b ≤ 1000 := by omega
  walk_at "rd"
  refine ⟨_, _, true, false, rfl, .base (.int i), kit_ii, kit_ib, ?_⟩
  walk_at "rd"
  refine ⟨_, _, _, rfl, ?_⟩
  have e1 : decide (0 ≤ i) = true := decide_eq_true h0
  have e2 : decide (i ≤ 1 * 2 ^ b.toNat - 1) = true := decide_eq_true (by omega)
  rw [e1, e2]
  walk_at "rd"
  exact q
abbrev s_number_of_str4 : Stmt := (top 32)
abbrev N_number_of_str4 : List Str := [("value" : Str), ("width" : Str)]
theorem sc_number_of_str4 : FnScope N_number_of_str4 [("value" : Str), ("width" : Str)] (defScope s_number_of_str4) := ⟨rfl, rfl, rfl, by decide +kernel, rfl, by decide +kernel, by decide +kernel⟩
def sp_number_of_str4 (K : Frag) : Sp := fun vs H Q E => ∃ z : Str, vs = [.str z, .int 32] ∧ z.length ≤ 100000 ∧ quadFault (tl z) = none ∧ ∀ H', Same H H' → Q (.int (quadVal (dots (tl z)))) H'
theorem ok_number_of_str4 (T : Tx K mg) : FnG P w K mg base 4 "number_of" (sp_number_of_str4 K) := by
  have F_is_integer := ok_is_integer (P := P) (w := w) (base := base) T
  have F_read_quad := ok_read_quad (P := P) (w := w) (base := base) T
  refine ⟨fnr T.d_number_of sc_number_of_str4 (fun vs H Q E h => by obtain ⟨z, rfl, hz, hq, q⟩ := h; rfl) (fun _ _ _ _ _ _ us hl => match us, hl with | [_, _], _ => rfl) (fun cdv A outer s H vs Q E hr h => ?_), T.kp_number_of, T.g_number_of⟩
  have nd := sc_number_of_str4.nd
  have hu := hu_of hr
  obtain ⟨z, rfl, hz, hq, q⟩ := h
  refine ⟨_, PSs.nox (pss_cons (ps_if (pt_val (pe_f F_is_integer (hr.mono (by decide)) passL (pa_cons (pv 0) pa_nil))) pss_never
        pss_nil)
        (pss_cons (ps_if (pt_val (pe_callB (c_isi K) (by rfl) T.f_isinstance bb_isinstance (pa_cons (pv 0) (pa_cons (pe_bltn (v := .ty "str") (u := .type "str") rfl T.f_str bb_str rfl) pa_nil)))) (pss_one (ps_ret (pe_ifExp (pt_cmpR op_eq (pv 1) (pe_gi T.i_WIDTH4) (nomark _)) (pe_f F_read_quad (hr.mono (by decide)) passL (pa_cons (pv 0) pa_nil)) pe_never)))
        pss_nil)
        pss_never)), ?_⟩
  walk_at "rd"
  refine ⟨_, _, false, false, rfl, .base (.str z), kit_si, kit_sb, ?_⟩
  walk_at "rd"
  refine ⟨_, _, _, _, true, rfl, .ty _, .base (.str z), kit_ss, ?_⟩
  walk_at "rd"
  exact ⟨hz, hq, q⟩
/-- at p stands the version 4 address of n -/
structure IsA4 (K : Frag) (H : Hp) (p : Addr) (n : Int) : Prop where
  ge : 0 ≤ n
  lt : n < 4294967296
  ob : ∃ dx, H p = some (.ins (He.ga K "Address4") dx [("number", .int n)])
theorem IsA4.same {K : Frag} {H H' : Hp} {p : Addr} {n : Int} (h : IsA4 K H p n) (e : Same H H') : IsA4 K H' p n := by
  obtain ⟨a, b, dx, c⟩ := h
  exact ⟨a, b, dx, e _ _ c⟩
theorem IsA4.but {K : Frag} {H H' : Hp} {p a : Addr} {n : Int} (h : IsA4 K H p n) (S : Srcs H a) (e : But a H H') : IsA4 K H' p n := by
  obtain ⟨x, y, dx, c⟩ := h
  exact ⟨x, y, dx, e _ _ c (S.neO c (fun _ z => by cases z))⟩
theorem same_made {H H' : Hp} {a dx : Addr} {o o' : HO} (na : H a = none) (ndx : H dx = none) (e : Same (upd (upd H dx (.own a)) a o) H') : Same H (upd H' a o') := fun b u h => by
  have hb : b ≠ a := fun z => by rw [z, na] at h; cases h
  have hd : b ≠ dx := fun z => by rw [z, ndx] at h; cases h
  rw [upd_ne hb]
  refine e b u ?_
  rw [upd_ne hb, upd_ne hd]; exact h
abbrev s_Address4___init___int : Stmt := (inClass (top 33) 2)
abbrev N_Address4___init___int : List Str := [("self" : Str), ("value" : Str)]
theorem sc_Address4___init___int : FnScope N_Address4___init___int [("self" : Str), ("value" : Str)] (defScope s_Address4___init___int) := ⟨rfl, rfl, rfl, by decide +kernel, rfl, by decide +kernel, by decide +kernel⟩
def sp_Address4___init___int (K : Frag) : Sp := fun vs H Q E => ∃ (p dx : Addr) (i : Int), vs = [.ref p, .int i] ∧ H p = some (.ins (He.ga K "Address4") dx []) ∧ 0 ≤ i ∧ i < 4294967296 ∧ Q .non (upd H p (.ins (He.ga K "Address4") dx [("number", .int i)]))
theorem ok_Address4___init___int (T : Tx K mg) : Wc P w K mg base 4 (He.ma K (He.ga K "Address4") "__init__") (sp_Address4___init___int K) := by
  have F_number_of_int := ok_number_of_int (P := P) (w := w) (base := base) T
  refine fnr T.dm_Address4____init__ sc_Address4___init___int (fun vs H Q E h => by obtain ⟨p, dx, i, rfl, hp, h0, h1, q⟩ := h; rfl) (fun _ _ _ _ _ _ us hl => match us, hl with | [_, _], _ => rfl) (fun cdv A outer s H vs Q E hr h => ?_)
  have nd := sc_Address4___init___int.nd
  have hu := hu_of hr
  obtain ⟨p, dx, i, rfl, hp, h0, h1, q⟩ := h
  refine ⟨_, PSs.nox (pss_one (ps_fld (pv 0) (pe_ifExp (pt_val (pe_callB (c_isi K) (by rfl) T.f_isinstance bb_isinstance (pa_cons (pv 1) (pa_cons (pe_glob (v := .ref (He.ga K "Address4")) rfl T.g_Address4 rfl) pa_nil)))) pe_never (pe_f F_number_of_int (hr.mono (by decide)) passL (pa_cons (pv 1) (pa_cons (pe_gi T.i_WIDTH4) pa_nil)))) rfl)), ?_⟩
  have x32 := e32
  walk_at "rd"
  refine ⟨_, _, _, _, false, rfl, .own _, .base (.int i), T.ki_int_Address4, ?_⟩
  walk_at "rd"
  refine ⟨_, _, rfl, .inl rfl, h0, by omega, ?_⟩
  walk_at "rd"
  exact ⟨p, _, dx, _, rfl, hp, T.c_Address4, T.na_Address4__number, lz, q⟩
abbrev s_Address4___init___str : Stmt := (inClass (top 33) 2)
abbrev N_Address4___init___str : List Str := [("self" : Str), ("value" : Str)]
theorem sc_Address4___init___str : FnScope N_Address4___init___str [("self" : Str), ("value" : Str)] (defScope s_Address4___init___str) := ⟨rfl, rfl, rfl, by decide +kernel, rfl, by decide +kernel, by decide +kernel⟩
def sp_Address4___init___str (K : Frag) : Sp := fun vs H Q E => ∃ (p dx : Addr) (z : Str), vs = [.ref p, .str z] ∧ H p = some (.ins (He.ga K "Address4") dx []) ∧ z.length ≤ 100000 ∧ quadFault (tl z) = none ∧ ∀ H', Same H H' → Q .non (upd H' p (.ins (He.ga K "Address4") dx [("number", .int (quadVal (dots (tl z))))]))
theorem ok_Address4___init___str (T : Tx K mg) : Wc P w K mg base 5 (He.ma K (He.ga K "Address4") "__init__") (sp_Address4___init___str K) := by
  have F_number_of_str4 := ok_number_of_str4 (P := P) (w := w) (base := base) T
  refine fnr T.dm_Address4____init__ sc_Address4___init___str (fun vs H Q E h => by obtain ⟨p, dx, z, rfl, hp, hz, hq, q⟩ := h; rfl) (fun _ _ _ _ _ _ us hl => match us, hl with | [_, _], _ => rfl) (fun cdv A outer s H vs Q E hr h => ?_)
  have nd := sc_Address4___init___str.nd
  have hu := hu_of hr
  obtain ⟨p, dx, z, rfl, hp, hz, hq, q⟩ := h
  refine ⟨_, PSs.nox (pss_one (ps_fld (pv 0) (pe_ifExp (pt_val (pe_callB (c_isi K) (by rfl) T.f_isinstance bb_isinstance (pa_cons (pv 1) (pa_cons (pe_glob (v := .ref (He.ga K "Address4")) rfl T.g_Address4 rfl) pa_nil)))) pe_never (pe_f F_number_of_str4 (hr.mono (by decide)) passL (pa_cons (pv 1) (pa_cons (pe_gi T.i_WIDTH4) pa_nil)))) rfl)), ?_⟩
  walk_at "rd"
  refine ⟨_, _, _, _, false, rfl, .own _, .base (.str z), T.ki_str_Address4, ?_⟩
  walk_at "rd"
  refine ⟨hz, hq, fun H1 s1 => ?_⟩
  walk_at "rd"
  exact ⟨p, _, dx, _, rfl, s1 _ _ hp, T.c_Address4, T.na_Address4__number, lz, q H1 s1⟩
abbrev s_Address4___init___Address4 : Stmt := (inClass (top 33) 2)
abbrev N_Address4___init___Address4 : List Str := [("self" : Str), ("value" : Str)]
theorem sc_Address4___init___Address4 : FnScope N_Address4___init___Address4 [("self" : Str), ("value" : Str)] (defScope s_Address4___init___Address4) := ⟨rfl, rfl, rfl, by decide +kernel, rfl, by decide +kernel, by decide +kernel⟩
def sp_Address4___init___Address4 (K : Frag) : Sp := fun vs H Q E => ∃ (p dx b : Addr) (n : Int), vs = [.ref p, .ref b] ∧ H p = some (.ins (He.ga K "Address4") dx []) ∧ IsA4 K H b n ∧ Q .non (upd H p (.ins (He.ga K "Address4") dx [("number", .int n)]))
theorem ok_Address4___init___Address4 (T : Tx K mg) : Wc P w K mg base 1 (He.ma K (He.ga K "Address4") "__init__") (sp_Address4___init___Address4 K) := by
  refine fnr T.dm_Address4____init__ sc_Address4___init___Address4 (fun vs H Q E h => by obtain ⟨p, dx, b, n, rfl, hp, ⟨n0, n1, db, hb⟩, q⟩ := h; rfl) (fun _ _ _ _ _ _ us hl => match us, hl with | [_, _], _ => rfl) (fun cdv A outer s H vs Q E hr h => ?_)
  have nd := sc_Address4___init___Address4.nd
  have hu := hu_of hr
  obtain ⟨p, dx, b, n, rfl, hp, ⟨n0, n1, db, hb⟩, q⟩ := h
  refine ⟨_, PSs.nox (pss_one (ps_fld (pv 0) (pe_ifExp (pt_val (pe_callB (c_isi K) (by rfl) T.f_isinstance bb_isinstance (pa_cons (pv 1) (pa_cons (pe_glob (v := .ref (He.ga K "Address4")) rfl T.g_Address4 rfl) pa_nil)))) (p_fld K (pv 1)) pe_never) rfl)), ?_⟩
  walk_at "rd"
  refine ⟨_, _, _, _, true, rfl, .own _, T.ty_Address4.tx hb, T.ki_Address4_Address4, ?_⟩
  walk_at "rd"
  refine ⟨_, _, _, _, _, rfl, hb, T.c_Address4, T.na_Address4__number, rfl, ?_⟩
  walk_at "rd"
  exact ⟨p, _, dx, _, rfl, hp, T.c_Address4, T.na_Address4__number, lz, q⟩
def sp_Address4_int (K : Frag) : Sp := fun vs H Q E => ∃ i : Int, vs = [.int i] ∧ 0 ≤ i ∧ i < 4294967296 ∧ ∀ (a : Addr) (H' : Hp), Same H H' → H a = none → IsA4 K H' a i → Q (.ref a) H'
theorem ok_Address4_int (T : Tx K mg) : FnC P w K mg base 4 "Address4" (sp_Address4_int K) := by
  refine ⟨⟨_, _, T.mk_Address4, ok_Address4___init___int (P := P) (w := w) (base := base) T, fun vs H Q E h a dx na ndx nda => ?_⟩, T.g_Address4⟩
  obtain ⟨i, rfl, h0, h1, q⟩ := h
  exact ⟨a, dx, i, rfl, upd_same, h0, h1, rfl, q a _ (same_made na ndx (Same.refl _)) na ⟨h0, h1, dx, upd_same⟩⟩
def sp_Address4_str (K : Frag) : Sp := fun vs H Q E => ∃ (z : Str) (n : Int), vs = [.str z] ∧ z.length ≤ 100000 ∧ quadFault (tl z) = none ∧ n = quadVal (dots (tl z)) ∧ n < 4294967296 ∧ ∀ (a : Addr) (H' : Hp), Same H H' → H a = none → IsA4 K H' a n → Q (.ref a) H'
theorem ok_Address4_str (T : Tx K mg) : FnC P w K mg base 5 "Address4" (sp_Address4_str K) := by
  refine ⟨⟨_, _, T.mk_Address4, ok_Address4___init___str (P := P) (w := w) (base := base) T, fun vs H Q E h a dx na ndx nda => ?_⟩, T.g_Address4⟩
  obtain ⟨z, n, rfl, hz, hq, rfl, hn, q⟩ := h
  exact ⟨a, dx, z, rfl, upd_same, hz, hq, fun H1 s1 => ⟨rfl, q a _ (same_made na ndx s1) na ⟨by omega, hn, dx, upd_same⟩⟩⟩
def sp_Address4_Address4 (K : Frag) : Sp := fun vs H Q E => ∃ (b : Addr) (n : Int), vs = [.ref b] ∧ IsA4 K H b n ∧ ∀ (a : Addr) (H' : Hp), Same H H' → H a = none → IsA4 K H' a n → Q (.ref a) H'
theorem ok_Address4_Address4 (T : Tx K mg) : FnC P w K mg base 1 "Address4" (sp_Address4_Address4 K) := by
  refine ⟨⟨_, _, T.mk_Address4, ok_Address4___init___Address4 (P := P) (w := w) (base := base) T, fun vs H Q E h a dx na ndx nda => ?_⟩, T.g_Address4⟩
  obtain ⟨b, n, rfl, hb, q⟩ := h
  have s1 : Same H (upd (upd H dx (.own a)) a (.ins (He.ga K "Address4") dx [])) := fun c u h => by
    rw [upd_ne (fun z => by rw [z, na] at h; cases h), upd_ne (fun z => by rw [z, ndx] at h; cases h)]; exact h
  exact ⟨a, dx, b, n, rfl, upd_same, hb.same s1, rfl, q a _ (same_made na ndx (Same.refl _)) na ⟨hb.ge, hb.lt, dx, upd_same⟩⟩
abbrev s_Address4___str__ : Stmt := (inClass (top 33) 12)
abbrev N_Address4___str__ : List Str := [("self" : Str)]
theorem sc_Address4___str__ : FnScope N_Address4___str__ [("self" : Str)] (defScope s_Address4___str__) := ⟨rfl, rfl, rfl, by decide +kernel, rfl, by decide +kernel, by decide +kernel⟩
def sp_Address4___str__ (K : Frag) : Sp := fun vs H Q E => ∃ (p : Addr) (n : Int), vs = [.ref p] ∧ IsA4 K H p n ∧ ∀ H', Same H H' → Q (.str (quadS n)) H'
theorem ok_Address4___str__ (T : Tx K mg) : Wc P w K mg base 3 (He.ma K (He.ga K "Address4") "__str__") (sp_Address4___str__ K) := by
  have F_quad_text := ok_quad_text (P := P) (w := w) (base := base) T
  refine fnr T.dm_Address4____str__ sc_Address4___str__ (fun vs H Q E h => by obtain ⟨p, n, rfl, ⟨n0, n1, dx, hp⟩, q⟩ := h; rfl) (fun _ _ _ _ _ _ us hl => match us, hl with | [_], _ => rfl) (fun cdv A outer s H vs Q E hr h => ?_)
  have nd := sc_Address4___str__.nd
  have hu := hu_of hr
  obtain ⟨p, n, rfl, ⟨n0, n1, dx, hp⟩, q⟩ := h
  refine ⟨_, PSs.nox (pss_one (ps_ret (pe_joined1 (pe_fmt (pe_f F_quad_text (hr.mono (by decide)) passL (pa_cons (p_fld K (pv 0)) pa_nil)))))), ?_⟩
  walk_at "rd"
  refine ⟨_, _, _, _, _, rfl, hp, T.c_Address4, T.na_Address4__number, rfl, ?_⟩
  walk_at "rd"
  refine ⟨n0, by omega, fun H1 s1 => ?_⟩
  refine Or.inl ⟨_, rfl, quadS_sz n0, q H1 s1⟩
abbrev s_Address4_is_unspecified : Stmt := (inClass (top 33) 8)
abbrev N_Address4_is_unspecified : List Str := [("self" : Str)]
theorem sc_Address4_is_unspecified : FnScope N_Address4_is_unspecified [("self" : Str)] (defScope s_Address4_is_unspecified) := ⟨rfl, rfl, rfl, by decide +kernel, rfl, by decide +kernel, by decide +kernel⟩
def sp_Address4_is_unspecified (K : Frag) : Sp := fun vs H Q E => ∃ (p : Addr) (n : Int), vs = [.ref p] ∧ IsA4 K H p n ∧ Q (.bl (decide (V.int n = V.int 0))) H
theorem ok_Address4_is_unspecified (T : Tx K mg) : Wc P w K mg base 1 (wfA K "Address4" "property" "is_unspecified") (sp_Address4_is_unspecified K) := by
  refine fnr T.dm_Address4__is_unspecified sc_Address4_is_unspecified (fun vs H Q E h => by obtain ⟨p, n, rfl, ⟨n0, n1, dx, hp⟩, q⟩ := h; rfl) (fun _ _ _ _ _ _ us hl => match us, hl with | [_], _ => rfl) (fun cdv A outer s H vs Q E hr h => ?_)
  have nd := sc_Address4_is_unspecified.nd
  have hu := hu_of hr
  obtain ⟨p, n, rfl, ⟨n0, n1, dx, hp⟩, q⟩ := h
  refine ⟨_, PSs.nox (pss_one (ps_ret (pe_cmpR op_eq (p_fld K (pv 0)) pe_int (nomark _)))), ?_⟩
  walk_at "rd"
  refine ⟨_, _, _, _, _, rfl, hp, T.c_Address4, T.na_Address4__number, rfl, ?_⟩
  walk_at "rd"
  exact q
abbrev s_Address4_is_loopback : Stmt := (inClass (top 33) 9)
abbrev N_Address4_is_loopback : List Str := [("self" : Str)]
theorem sc_Address4_is_loopback : FnScope N_Address4_is_loopback [("self" : Str)] (defScope s_Address4_is_loopback) := ⟨rfl, rfl, rfl, by decide +kernel, rfl, by decide +kernel, by decide +kernel⟩
def sp_Address4_is_loopback (K : Frag) : Sp := fun vs H Q E => ∃ (p : Addr) (n : Int), vs = [.ref p] ∧ IsA4 K H p n ∧ Q (.bl (decide (V.int (n / 2 ^ Int.toNat 24) = V.int 127))) H
theorem ok_Address4_is_loopback (T : Tx K mg) : Wc P w K mg base 1 (wfA K "Address4" "property" "is_loopback") (sp_Address4_is_loopback K) := by
  refine fnr T.dm_Address4__is_loopback sc_Address4_is_loopback (fun vs H Q E h => by obtain ⟨p, n, rfl, ⟨n0, n1, dx, hp⟩, q⟩ := h; rfl) (fun _ _ _ _ _ _ us hl => match us, hl with | [_], _ => rfl) (fun cdv A outer s H vs Q E hr h => ?_)
  have nd := sc_Address4_is_loopback.nd
  have hu := hu_of hr
  obtain ⟨p, n, rfl, ⟨n0, n1, dx, hp⟩, q⟩ := h
  refine ⟨_, PSs.nox (pss_one (ps_ret (pe_cmpR op_eq (pe_op op_shr (p_fld K (pv 0)) pe_int) pe_int (nomark _)))), ?_⟩
  walk_at "rd"
  refine ⟨_, _, _, _, _, rfl, hp, T.c_Address4, T.na_Address4__number, rfl, ?_⟩
  walk_at "rd"
  exact q
abbrev s_Address4_is_multicast : Stmt := (inClass (top 33) 10)
abbrev N_Address4_is_multicast : List Str := [("self" : Str)]
theorem sc_Address4_is_multicast : FnScope N_Address4_is_multicast [("self" : Str)] (defScope s_Address4_is_multicast) := ⟨rfl, rfl, rfl, by decide +kernel, rfl, by decide +kernel, by decide +kernel⟩
def sp_Address4_is_multicast (K : Frag) : Sp := fun vs H Q E => ∃ (p : Addr) (n : Int), vs = [.ref p] ∧ IsA4 K H p n ∧ Q (.bl (decide (V.int (n / 2 ^ Int.toNat 28) = V.int 14))) H
theorem ok_Address4_is_multicast (T : Tx K mg) : Wc P w K mg base 1 (wfA K "Address4" "property" "is_multicast") (sp_Address4_is_multicast K) := by
  refine fnr T.dm_Address4__is_multicast sc_Address4_is_multicast (fun vs H Q E h => by obtain ⟨p, n, rfl, ⟨n0, n1, dx, hp⟩, q⟩ := h; rfl) (fun _ _ _ _ _ _ us hl => match us, hl with | [_], _ => rfl) (fun cdv A outer s H vs Q E hr h => ?_)
  have nd := sc_Address4_is_multicast.nd
  have hu := hu_of hr
  obtain ⟨p, n, rfl, ⟨n0, n1, dx, hp⟩, q⟩ := h
  refine ⟨_, PSs.nox (pss_one (ps_ret (pe_cmpR op_eq (pe_op op_shr (p_fld K (pv 0)) pe_int) pe_int (nomark _)))), ?_⟩
  walk_at "rd"
  refine ⟨_, _, _, _, _, rfl, hp, T.c_Address4, T.na_Address4__number, rfl, ?_⟩
  walk_at "rd"
  exact q
abbrev s_Address4_is_link_local : Stmt := (inClass (top 33) 11)
abbrev N_Address4_is_link_local : List Str := [("self" : Str)]
theorem sc_Address4_is_link_local : FnScope N_Address4_is_link_local [("self" : Str)] (defScope s_Address4_is_link_local) := ⟨rfl, rfl, rfl, by decide +kernel, rfl, by decide +kernel, by decide +kernel⟩
def sp_Address4_is_link_local (K : Frag) : Sp := fun vs H Q E => ∃ (p : Addr) (n : Int), vs = [.ref p] ∧ IsA4 K H p n ∧ Q (.bl (decide (V.int (n / 2 ^ Int.toNat 16) = V.int 43518))) H
theorem ok_Address4_is_link_local (T : Tx K mg) : Wc P w K mg base 1 (wfA K "Address4" "property" "is_link_local") (sp_Address4_is_link_local K) := by
  refine fnr T.dm_Address4__is_link_local sc_Address4_is_link_local (fun vs H Q E h => by obtain ⟨p, n, rfl, ⟨n0, n1, dx, hp⟩, q⟩ := h; rfl) (fun _ _ _ _ _ _ us hl => match us, hl with | [_], _ => rfl) (fun cdv A outer s H vs Q E hr h => ?_)
  have nd := sc_Address4_is_link_local.nd
  have hu := hu_of hr
  obtain ⟨p, n, rfl, ⟨n0, n1, dx, hp⟩, q⟩ := h
  refine ⟨_, PSs.nox (pss_one (ps_ret (pe_cmpR op_eq (pe_op op_shr (p_fld K (pv 0)) pe_int) pe_int (nomark _)))), ?_⟩
  walk_at "rd"
  refine ⟨_, _, _, _, _, rfl, hp, T.c_Address4, T.na_Address4__number, rfl, ?_⟩
  walk_at "rd"
  exact q
theorem dots_join {ps : List (List Nat)} (h : ps ≠ []) (hp : ∀ p ∈ ps, 46 ∉ p) : dots (joinL [46] ps) = ps := by
  unfold dots
  rw [← sp1_spl]
  exact spl_join h hp
theorem numL_ok : ∀ v : Nat, v < 256 → partFault (numL v) = none := by decide +kernel
theorem parts_tl (n : Int) : (quadParts n).map tl = [24, 16, 8, 0].map fun s : Nat => numL (n / 2 ^ s % 256).toNat := by
  unfold quadParts
  rw [List.map_map]
  refine List.map_congr_left fun s _ => ?_
  exact numS_tl (part_b n s).1
theorem quad_dots (n : Int) : dots (tl (quadS n)) = [24, 16, 8, 0].map fun s : Nat => numL (n / 2 ^ s % 256).toNat := by
  rw [quadS_tl, parts_tl]
  refine dots_join (by simp) fun p hp => ?_
  obtain ⟨s, _, rfl⟩ := List.mem_map.mp hp
  exact numL_free (.inl (by decide))
theorem quad_good (n : Int) : quadFault (tl (quadS n)) = none := by
  unfold quadFault
  rw [quad_dots]
  rw [if_pos (by rfl)]
  refine first_of fun p hp => ?_
  obtain ⟨s, _, rfl⟩ := List.mem_map.mp hp
  have b := part_b n s
  exact numL_ok _ (by omega)
theorem quad_back {n : Int} (h0 : 0 ≤ n) (h1 : n < 4294967296) : (quadVal (dots (tl (quadS n))) : Int) = n := by
  rw [quad_dots]
  unfold quadVal
  simp only [List.map_cons, List.map_nil, List.foldl_cons, List.foldl_nil, numL_val]
  have e24 : (2 : Int) ^ 24 = 16777216 := by decide
  have e16 : (2 : Int) ^ 16 = 65536 := by decide
  have e8 : (2 : Int) ^ 8 = 256 := by decide
  have e0 : (2 : Int) ^ 0 = 1 := by decide
  rw [e24, e16, e8, e0]
  omega

def told (n : Int) : List Bool := [decide (V.int n = V.int 0), decide (V.int (n / 2 ^ Int.toNat 24) = V.int 127), decide (V.int (n / 2 ^ Int.toNat 28) = V.int 14), decide (V.int (n / 2 ^ Int.toNat 16) = V.int 43518)]
def due (n : Int) : List Bool := [decide (V.int n = V.int 0), decide (V.int (n / 2 ^ Int.toNat 24) = V.int 127), decide (224 ≤ n / 2 ^ Int.toNat 24) && decide (n / 2 ^ Int.toNat 24 < 240),
  decide ((169 * 256 + 254) * 65536 ≤ n) && decide (n < (169 * 256 + 254) * 65536 + 65536)]
theorem told_due (n : Int) : told n = due n := by
  have e24 : (2 : Int) ^ Int.toNat 24 = 16777216 := by decide
  have e28 : (2 : Int) ^ Int.toNat 28 = 268435456 := by decide
  have e16 : (2 : Int) ^ Int.toNat 16 = 65536 := by decide
  have a : decide (V.int (n / 2 ^ Int.toNat 28) = V.int 14) = (decide (224 ≤ n / 2 ^ Int.toNat 24) && decide (n / 2 ^ Int.toNat 24 < 240)) := by
    rw [e24, e28, ← Bool.decide_and]
    refine decide_eq_decide.mpr ⟨fun h => ?_, fun h => ?_⟩
    · injection h with h
      omega
    · have : n / 268435456 = 14 := by omega
      rw [this]
  have b : decide (V.int (n / 2 ^ Int.toNat 16) = V.int 43518) = (decide ((169 * 256 + 254) * 65536 ≤ n) && decide (n < (169 * 256 + 254) * 65536 + 65536)) := by
    rw [e16, ← Bool.decide_and]
    refine decide_eq_decide.mpr ⟨fun h => ?_, fun h => ?_⟩
    · injection h with h
      omega
    · have : n / 65536 = 43518 := by omega
      rw [this]
  unfold told due
  rw [a, b]
theorem bools_dp {K : Frag} {H : Hp} : ∀ bs : List Bool, DpAll K H (bs.map V.bl) (bs.map PyData.bool)
  | [] => .nil
  | b :: r => .cons (.bl b) (bools_dp r)
theorem bools_shaped : ∀ bs : List Bool, PyData.canLayAll0 (bs.map PyData.bool) = true ∧ PyData.depthAll (bs.map PyData.bool) = 0
  | [] => ⟨by simp [PyData.canLayAll0], by simp [PyData.depthAll]⟩
  | b :: r => by
    obtain ⟨h1, h2⟩ := bools_shaped r
    exact ⟨by simp [PyData.canLayAll0, PyData.canLay0, h1], by simp [PyData.depthAll, PyData.depth, h2]⟩
theorem bools_ne {K : Frag} {H : Hp} {l1 l2 : Addr} {bs : List Bool} (h1 : SqL K H l1 (bs.map V.bl)) (h2 : SqL K H l2 (bs.map V.bl)) {Q : VK} (q : Q (.bl false) H) : rNeD K (.ref l1) (.ref l2) H Q := by
  have sh : SeqAt.shaped (.list (bs.map PyData.bool)) = true := by
    obtain ⟨a, b⟩ := bools_shaped bs
    unfold SeqAt.shaped
    simp [PyData.canLay0, a, PyData.depth, b]
  refine ⟨.list (bs.map PyData.bool), .list (bs.map PyData.bool), .lst h1 (bools_dp bs), .lst h2 (bools_dp bs), sh, sh, ?_⟩
  rw [SeqAt.eqv_refl _ (SeqAt.canLay_of_shaped sh)]
  exact q
abbrev s__law_told : Stmt := (top 39)
abbrev N__law_told : List Str := [("_law_one" : Str)]
theorem sc__law_told : FnScope N__law_told [("_law_one" : Str)] (defScope s__law_told) := ⟨rfl, rfl, rfl, by decide +kernel, rfl, by decide +kernel, by decide +kernel⟩
def sp__law_told (K : Frag) : Sp := fun vs H Q E => ∃ (p : Addr) (n : Int), vs = [.ref p] ∧ IsA4 K H p n ∧ ∀ (l : Addr) (H' : Hp), Same H H' → H l = none → H' l = some (.lst ((told n).map V.bl)) → Q (.ref l) H'
theorem ok__law_told (T : Tx K mg) : FnG P w K mg base 3 "_law_told" (sp__law_told K) := by
  have F_Address4_is_unspecified := ok_Address4_is_unspecified (P := P) (w := w) (base := base) T
  have F_Address4_is_loopback := ok_Address4_is_loopback (P := P) (w := w) (base := base) T
  have F_Address4_is_multicast := ok_Address4_is_multicast (P := P) (w := w) (base := base) T
  have F_Address4_is_link_local := ok_Address4_is_link_local (P := P) (w := w) (base := base) T
  refine ⟨fnr T.d__law_told sc__law_told (fun vs H Q E h => by obtain ⟨p, n, rfl, A1, q⟩ := h; rfl) (fun _ _ _ _ _ _ us hl => match us, hl with | [_], _ => rfl) (fun cdv A outer s H vs Q E hr h => ?_), T.kp__law_told, T.g__law_told⟩
  have nd := sc__law_told.nd
  have hu := hu_of hr
  obtain ⟨p, n, rfl, A1, q⟩ := h
  refine ⟨_, PSs.nox (pss_one (ps_ret (p_lst (pa_cons (pe_pr (pv 0) T.c_Address4 T.p_Address4__is_unspecified F_Address4_is_unspecified (hr.mono (by decide))) (pa_cons (pe_pr (pv 0) T.c_Address4 T.p_Address4__is_loopback F_Address4_is_loopback (hr.mono (by decide))) (pa_cons (pe_pr (pv 0) T.c_Address4 T.p_Address4__is_multicast F_Address4_is_multicast (hr.mono (by decide))) (pa_cons (pe_pr (pv 0) T.c_Address4 T.p_Address4__is_link_local F_Address4_is_link_local (hr.mono (by decide))) pa_nil))))))), ?_⟩
  obtain ⟨n0, n1, dx, hp⟩ := id A1
  walk_at "rd"
  refine ⟨_, _, _, rfl, hp, _, _, rfl, A1, ?_⟩
  walk_at "rd"
  refine ⟨_, _, _, rfl, hp, _, _, rfl, A1, ?_⟩
  walk_at "rd"
  refine ⟨_, _, _, rfl, hp, _, _, rfl, A1, ?_⟩
  walk_at "rd"
  refine ⟨_, _, _, rfl, hp, _, _, rfl, A1, ?_⟩
  walk_at "rd"
  refine ⟨lz, fun l H1 s1 nl hl => ?_⟩
  exact q l _ s1 nl hl
abbrev s__law_due : Stmt := (top 40)
abbrev N__law_due : List Str := [("_law_number_here" : Str), ("_law_link" : Str), ("_law_byte" : Str)]
theorem sc__law_due : FnScope N__law_due [("_law_number_here" : Str)] (defScope s__law_due) := ⟨rfl, rfl, rfl, by decide +kernel, rfl, by decide +kernel, by decide +kernel⟩
def sp__law_due (K : Frag) : Sp := fun vs H Q E => ∃ n : Int, vs = [.int n] ∧ 0 ≤ n ∧ ∀ (l : Addr) (H' : Hp), Same H H' → H l = none → H' l = some (.lst ((due n).map V.bl)) → Q (.ref l) H'
theorem ok__law_due (T : Tx K mg) : FnG P w K mg base 1 "_law_due" (sp__law_due K) := by
  refine ⟨fnr T.d__law_due sc__law_due (fun vs H Q E h => by obtain ⟨n, rfl, n0, q⟩ := h; rfl) (fun _ _ _ _ _ _ us hl => match us, hl with | [_], _ => rfl) (fun cdv A outer s H vs Q E hr h => ?_), T.kp__law_due, T.g__law_due⟩
  have nd := sc__law_due.nd
  have hu := hu_of hr
  obtain ⟨n, rfl, n0, q⟩ := h
  refine ⟨_, PSs.nox (pss_cons (ps_set (i := 1) nd rfl (Or.inl rfl) (pe_op op_mul (pe_op op_add (pe_op op_mul pe_int pe_int) pe_int) pe_int))
        (pss_cons (ps_set (i := 2) nd rfl (Or.inl rfl) (pe_op op_shr (pv 0) pe_int))
        (pss_one (ps_ret (p_lst (pa_cons (pe_cmpR op_eq (pv 0) pe_int (nomark _)) (pa_cons (pe_cmpR op_eq (pv 2) pe_int (nomark _)) (pa_cons (pe_chain op_le op_lt pe_int (pv 2) pe_int) (pa_cons (pe_chain op_le op_lt (pv 1) (pv 0) (pe_op op_add (pv 1) pe_int)) pa_nil))))))))), ?_⟩
  walk_at "rd"
  cases h1 : decide (224 ≤ n / 2 ^ Int.toNat 24) with
  | false =>
    walk_at "rd"
    cases h2 : decide ((169 * 256 + 254) * 65536 ≤ n) with
    | false =>
      walk_at "rd"
      refine ⟨lz, fun l H1 s1 nl hl => ?_⟩
      refine q l _ s1 nl ?_
      rw [hl]
      unfold due
      rw [h1, h2]
      rfl
    | true =>
      walk_at "rd"
      refine ⟨lz, fun l H1 s1 nl hl => ?_⟩
      refine q l _ s1 nl ?_
      rw [hl]
      unfold due
      rw [h1, h2]
      rfl
  | true =>
    walk_at "rd"
    cases h2 : decide ((169 * 256 + 254) * 65536 ≤ n) with
    | false =>
      walk_at "rd"
      refine ⟨lz, fun l H1 s1 nl hl => ?_⟩
      refine q l _ s1 nl ?_
      rw [hl]
      unfold due
      rw [h1, h2]
      rfl
    | true =>
      walk_at "rd"
      refine ⟨lz, fun l H1 s1 nl hl => ?_⟩
      refine q l _ s1 nl ?_
      rw [hl]
      unfold due
      rw [h1, h2]
      rfl
abbrev s_law : Stmt := (top 41)
abbrev N_law : List Str := [("_law_script" : Str), ("_law_link" : Str), ("_law_ends" : Str), ("_law_k" : Str), ("_law_source_here" : Str), ("_law_inner" : Str), ("_law_number_here" : Str), ("_law_told_here" : Str), ("_law_one" : Str)]
theorem sc_law : FnScope N_law [("_law_script" : Str)] (defScope s_law) := ⟨rfl, rfl, rfl, by decide +kernel, rfl, by decide +kernel, by decide +kernel⟩
def sp_law (K : Frag) : Sp := fun vs H Q E => ∃ (a : Addr) (ns : List Int), vs = [.ref a] ∧ SqL K H a (ns.map V.int) ∧ ns.length ≤ 63 ∧ ∀ H', Q (.bl true) H'
theorem ok_law (T : Tx K mg) : ∃ fd : FuncData, (∀ (s : Shared) (u : Value), BindsTo s fd ⟨[u], []⟩ [("_law_script", u)]) ∧ ∀ base : Heap, FnOk P w K mg base CX0 7 (He.ga K "law") fd ["_law_script"] (sp_law K) := by
  obtain ⟨fd, F⟩ := T.d_law
  have gl := T.g_law
  refine ⟨fd, fun s v => F.bindsA (ps := ["_law_script"]) (fun _ _ _ _ _ _ us hl => match us, hl with | [_], _ => rfl) s [v] rfl, fun base => F.ok (CX := CX0) sc_law (fun vs H Q E h => by obtain ⟨a, ns, rfl, hS, hlen, k⟩ := h; rfl) (fun cdv A outer s H vs Q E hr h => ?_)⟩
  have F__law_source := ok__law_source (P := P) (w := w) (base := base) T
  have F__law_draw := ok__law_draw (P := P) (w := w) (base := base) T
  have F__law_number := ok__law_number (P := P) (w := w) (base := base) T
  have F_Address4_int := ok_Address4_int (P := P) (w := w) (base := base) T
  have F__law_told := ok__law_told (P := P) (w := w) (base := base) T
  have F__law_due := ok__law_due (P := P) (w := w) (base := base) T
  have F_Address4___str__ := ok_Address4___str__ (P := P) (w := w) (base := base) T
  have F_Address4_str := ok_Address4_str (P := P) (w := w) (base := base) T
  have nd := sc_law.nd
  have hu := hu_of hr
  obtain ⟨a, ns, rfl, hS, hlen, k⟩ := h
  refine ⟨_, PSs.nox (pss_cons (ps_set (i := 1) nd rfl (Or.inl rfl) (pe_op op_mul (pe_op op_add (pe_op op_mul pe_int pe_int) pe_int) pe_int))
        (pss_cons (ps_set (i := 2) nd rfl (Or.inl rfl) (p_lst (pa_cons (pe_op op_shlW pe_int pe_int) (pa_cons (pe_op op_shlW pe_int pe_int) (pa_cons (pe_op op_shlW pe_int pe_int) (pa_cons (pe_op op_shlW pe_int pe_int) (pa_cons (pv 1) (pa_cons (pe_op op_add (pv 1) pe_int) (pa_cons pe_int (pa_cons pe_int pa_nil))))))))))
        (pss_cons (ps_for PassesOwn.never rfl (pi_range1 (by rfl) T.f_range (pa_cons (pe_callB (call_max2 rfl) (by rfl) T.f_max bb_max (pa_cons pe_int (pa_cons (pe_callB (call_min2 rfl) (by rfl) T.f_min bb_min (pa_cons pe_int (pa_cons (pe_callB (c_lenq K) (by rfl) T.f_len bb_len (pa_cons (pv 0) pa_nil)) pa_nil))) pa_nil))) pa_nil)) (pg_name (i := 3) nd rfl (Or.inl rfl))
        (pss_cons (ps_set (i := 4) nd rfl (Or.inl rfl) (pe_f F__law_source (hr.mono (by decide)) passL (pa_cons (pv 0) (pa_cons (pv 3) pa_nil))))
        (pss_cons (ps_set (i := 5) nd rfl (Or.inl rfl) (p_lst (pa_cons (pe_op op_add (pe_op op_shlW pe_int pe_int) (pe_f F__law_draw (hr.mono (by decide)) passL (pa_cons (pv 4) (pa_cons (pe_op op_shlW pe_int pe_int) pa_nil)))) (pa_cons (pe_op op_add (pe_op op_shlW pe_int pe_int) (pe_f F__law_draw (hr.mono (by decide)) passL (pa_cons (pv 4) (pa_cons (pe_op op_shlW pe_int pe_int) pa_nil)))) pa_nil))))
        (pss_cons (ps_set (i := 5) nd rfl (Or.inl rfl) (pe_op (o_catA K) (pv 5) (p_lst (pa_cons (pe_op op_add (pv 1) (pe_f F__law_draw (hr.mono (by decide)) passL (pa_cons (pv 4) (pa_cons pe_int pa_nil)))) (pa_cons (pe_f F__law_number (hr.mono (by decide)) passL (pa_cons (pv 4) (pa_cons pe_int pa_nil))) (pa_cons (pe_f F__law_number (hr.mono (by decide)) passL (pa_cons (pv 4) (pa_cons pe_int pa_nil))) pa_nil))))))
        (pss_one (ps_for PassesOwn.never rfl (i_list K (pe_op (o_catA K) (pe_op (o_catA K) (pv 5) (pe_lc (own := [("_law_one", 8)]) rfl nd (i_list K (pv 2)) (blkOk_by (own := [("_law_one", 8)]) (N := N_law) (sc := defScope s_law) (by decide +kernel)) (fun _ _ _ _ _ => (pg_name (i := 8) nd rfl (Or.inl rfl))) (fun _ _ _ _ _ => pts_nil) (fun _ _ _ _ _ => (pe_op op_sub (pv 8) pe_int)))) (pv 2))) (pg_name (i := 6) nd rfl (Or.inl rfl))
        (pss_cons (ps_set (i := 7) nd rfl (Or.inl rfl) (pe_f F__law_told (hr.mono (by decide)) passL (pa_cons (pe_cl F_Address4_int (hr.mono (by decide)) passL (pa_cons (pv 6) pa_nil)) pa_nil)))
        (pss_cons (ps_if (PW.pt (pw_or (pt_cmpR (o_neD K hr.units) (pv 7) (pe_f F__law_due (hr.mono (by decide)) passL (pa_cons (pv 6) pa_nil)) (nomark _)) (pw_or1 (pt_cmpR (o_neD K hr.units) (pe_lc (own := [("_law_one", 8)]) rfl nd (i_list K (pv 7)) (blkOk_by (own := [("_law_one", 8)]) (N := N_law) (sc := defScope s_law) (by decide +kernel)) (fun _ _ _ _ _ => (pg_name (i := 8) nd rfl (Or.inl rfl))) (fun _ _ _ _ _ => (pts_one (pt_not (pt_val (pe_callB (c_isi K) (by rfl) T.f_isinstance bb_isinstance (pa_cons (pv 8) (pa_cons (pe_bltn (v := .ty "bool") (u := .type "bool") rfl T.f_bool bb_bool rfl) pa_nil))))))) (fun _ _ _ _ _ => (pv 8))) (p_lst pa_nil) (nomark _))))) (pss_one (ps_ret pe_bl))
        pss_nil)
        (pss_one (ps_if (pt_cmpR (o_neD K hr.units) (pe_f F__law_told (hr.mono (by decide)) passL (pa_cons (pe_cl F_Address4_str (hr.mono (by decide)) passL (pa_cons (pe_callTy (call_strOwn T.m_Address4____str__ F_Address4___str__ (hr.mono (by decide)) passL) (by rfl) T.f_str bb_str (pa_cons (pe_cl F_Address4_int (hr.mono (by decide)) passL (pa_cons (pv 6) pa_nil)) pa_nil)) pa_nil)) pa_nil)) (pv 7) (nomark _)) (pss_one (ps_ret pe_bl))
        pss_nil))))))))))
        (pss_one (ps_ret pe_bl))))), ?_⟩
  have e24 : (2 : Int) ^ Int.toNat 24 = 16777216 := by decide
  have e28 : (2 : Int) ^ Int.toNat 28 = 268435456 := by decide
  walk_at "rd"
  refine ⟨lz, fun le HE sE nle hE => ?_⟩
  walk_at "rd"
  refine ⟨_, _, rfl, Or.inl (sE.seq hS), ?_⟩
  walk_at "rd"
  refine ⟨_, _, rfl, ?_⟩
  walk_at "rd"
  refine ⟨_, _, rfl, ?_⟩
  obtain ⟨N, hN, N1, N8⟩ := max_min8 ((ns.map V.int).length : Int) (by omega) 8 (by decide)
  rw [hN]
  walk_at "rd"
  refine ⟨by omega, by omega, for_range (n := N.toNat) (fun i σ H2 => ∃ v3 v4 v5 v6 v7 v8 : Option V, σ = [some (.ref a), some (.int ((169 * 256 + 254) * 65536)), some (.ref le), v3, v4, v5, v6, v7, v8] ∧ Same HE H2) ⟨none, none, none, none, none, none, rfl, Same.refl _⟩ ?_ ?_⟩
  · rintro i σ H2 hi ⟨v3, v4, v5, v6, v7, v8, rfl, s2⟩
    walk_at "rd"
    refine ⟨a, ns, _, rfl, (sE.trans s2).seq hS, hlen, by omega, by omega, fun p H3 x y s3 np hp => ?_⟩
    walk_at "rd"
    refine ⟨p, _, rfl, ⟨_, _, _, hp⟩, by omega, by omega, fun r1 H4 r10 r11 S4 B4 => ?_⟩
    walk_at "rd"
    refine ⟨p, _, rfl, S4, by omega, by omega, fun r2 H5 r20 r21 S5 B5 => ?_⟩
    walk_at "rd"
    refine ⟨lz, fun l1 H6 s6 nl1 hl1 => ?_⟩
    walk_at "rd"
    refine ⟨p, _, rfl, S5.same s6, by omega, by omega, fun r3 H7 r30 r31 S7 B7 => ?_⟩
    walk_at "rd"
    refine ⟨p, 32, rfl, .inl rfl, S7, fun r4 H8 r40 r41 S8 B8 => ?_⟩
    walk_at "rd"
    refine ⟨p, 32, rfl, .inl rfl, S8, fun r5 H9 r50 r51 S9 B9 => ?_⟩
    walk_at "rd"
    refine ⟨lz, fun l2 H10 s10 nl2 hl2 => ?_⟩
    have hl1' : H9 l1 = some _ := (B7.trans (B8.trans B9)) l1 _ hl1 (S5.ne nl1)
    refine ⟨_, _, _, _, rfl, rfl, SqL.of (s10 _ _ hl1'), SqL.of hl2, lz, fun l3 H11 s11 nl3 hl3 => ?_⟩
    have sB : Same HE H11 := (but_same (s2.trans s3) ((B4.trans B5).same s6 |>.trans (B7.trans (B8.trans B9))) (s2.free np)).trans (s10.trans s11)
    walk_at "rd"
    obtain ⟨es, hes⟩ : ∃ es : List Int, es = [127 * 2 ^ Int.toNat 24, 128 * 2 ^ Int.toNat 24, 224 * 2 ^ Int.toNat 24, 240 * 2 ^ Int.toNat 24, (169 * 256 + 254) * 65536, (169 * 256 + 254) * 65536 + 65536, 1, 4294967295] := ⟨_, rfl⟩
    have hE2 : H11 le = some (.lst (es.map V.int)) := by rw [hes]; exact sB _ _ hE
    have esz : es.length = 8 := by rw [hes]; rfl
    refine ⟨⟨_, SqL.of hE2⟩, fun D nD => ?_⟩
    refine lc_mp es V.int (fun c => V.int (c - 1)) (walk_list (K := K) (a := le) (xs := es.map V.int)) (List.length_map ..) (by rw [esz]; decide) yat_map nD (fun H' s' => SqL.of (s' _ _ hE2)) ?_ ?_
    · intro c hc H1 s1 Qe ke
      refine ⟨rfl, ?_⟩
      walk_at "rd"
      exact ke H1 (Same.refl _)
    intro H12 s12 hD
    refine ⟨_, _, _, _, rfl, rfl, SqL.of (s12 _ _ hl3), SqL.of hD, ?_, fun l4 H13 s13 nl4 hl4 => ?_⟩
    · rw [List.length_map, esz]; exact lz
    walk_at "rd"
    refine ⟨_, _, _, _, rfl, rfl, SqL.of hl4, SqL.of (s13 _ _ (s12 _ _ hE2)), ?_, fun l5 H14 s14 nl5 hl5 => ?_⟩
    · rw [List.length_append, List.length_map, List.length_map, esz]; exact lz
    have x32 := e32
    have bnd : ∀ v ∈ [V.int (127 * 2 ^ Int.toNat 24 + r1), V.int (224 * 2 ^ Int.toNat 24 + r2), V.int ((169 * 256 + 254) * 65536 + r3), V.int r4, V.int r5] ++ es.map (fun c => V.int (c - 1)) ++ es.map V.int, IntB 0 4294967296 v := by
      rw [hes]
      refine fa_app (fa_app ?_ (fa_map ?_)) (fa_map ?_)
      · exact fa_cons ⟨_, rfl, by omega, by omega⟩ (fa_cons ⟨_, rfl, by omega, by omega⟩ (fa_cons ⟨_, rfl, by omega, by omega⟩ (fa_cons ⟨_, rfl, by omega, by omega⟩ (fa_cons ⟨_, rfl, by omega, by omega⟩ fa_nil))))
      · refine fa_cons ?_ (fa_cons ?_ (fa_cons ?_ (fa_cons ?_ (fa_cons ?_ (fa_cons ?_ (fa_cons ?_ (fa_cons ?_ fa_nil)))))))
        all_goals exact ⟨_, rfl, by omega, by omega⟩
      · refine fa_cons ?_ (fa_cons ?_ (fa_cons ?_ (fa_cons ?_ (fa_cons ?_ (fa_cons ?_ (fa_cons ?_ (fa_cons ?_ fa_nil)))))))
        all_goals exact ⟨_, rfl, by omega, by omega⟩
    refine ⟨_, rfl, ⟨_, SqL.of hl5⟩, for_list (K := K) (a := l5) (xs := [V.int (127 * 2 ^ Int.toNat 24 + r1), V.int (224 * 2 ^ Int.toNat 24 + r2), V.int ((169 * 256 + 254) * 65536 + r3), V.int r4, V.int r5] ++ es.map (fun c => V.int (c - 1)) ++ es.map V.int)
      (fun j σ Hx => ∃ w3 w4 w5 w6 w7 w8 : Option V, σ = [some (.ref a), some (.int ((169 * 256 + 254) * 65536)), some (.ref le), w3, w4, w5, w6, w7, w8] ∧ Same H14 Hx) ⟨_, _, _, _, _, _, rfl, Same.refl _⟩ (fun j σ Hx _ ⟨_, _, _, _, _, _, _, sx⟩ => sx.seq (SqL.of hl5)) ?_ ?_⟩
    · rintro j y' σ Hx hj ⟨w3, w4, w5, w6, w7, w8, rfl, sx⟩
      obtain ⟨n, rfl, n0, n1⟩ := bnd y' (List.mem_of_getElem? hj)
      walk_at "rd"
      refine ⟨n0, n1, fun o1 G1 f1 no1 O1 => ?_⟩
      walk_at "rd"
      refine ⟨_, n, rfl, O1, fun m1 G2 f2 nm1 hm1 => ?_⟩
      walk_at "rd"
      refine ⟨n0, fun m2 G3 f3 nm2 hm2 => ?_⟩
      refine bools_ne (bs := told n) (SqL.of (f3 _ _ hm1)) (SqL.of (by rw [told_due]; exact hm2)) ?_
      walk_at "rd"
      refine ⟨⟨_, SqL.of (f3 _ _ hm1)⟩, fun D2 nD2 => ?_⟩
      refine lc_fm (told n) V.bl V.bl (fun _ => false) (walk_list (K := K) (a := m1) (xs := (told n).map V.bl)) (List.length_map ..) (by show 4 < sizeLine; decide) yat_map nD2 (fun H' s' => SqL.of (s' _ _ (f3 _ _ hm1))) ?_ ?_
      · intro c hc H1 s1 Qt Qe kt ke
        refine ⟨rfl, ?_⟩
        walk_at "rd"
        refine ⟨_, _, _, _, true, rfl, .ty _, .base (.bl c), kit_bb, ?_⟩
        walk_at "rd"
        exact kt H1 (Same.refl _) rfl
      intro G4 f4 hD2
      have ef : (told n).filter (fun _ => false) = [] := by simp
      rw [ef] at hD2
      refine ⟨lz, fun m3 G5 f5 nm3 hm3 => ?_⟩
      refine bools_ne (bs := []) (SqL.of (f5 _ _ hD2)) (SqL.of hm3) ?_
      walk_at "rd"
      refine ⟨n0, n1, fun o2 G6 f6 no2 O2 => ?_⟩
      walk_at "rd"
      obtain ⟨_, _, d2, ob2⟩ := id O2
      refine ⟨_, _, _, rfl, ob2, _, _, rfl, O2, fun G7 f7 => ⟨_, rfl, ?_⟩⟩
      have zl := quadS_len n0
      refine ⟨_, n, rfl, by omega, quad_good n, (quad_back n0 n1).symm, n1, fun o3 G8 f8 no3 O3 => ?_⟩
      refine ⟨_, n, rfl, O3, fun m4 G9 f9 nm4 hm4 => ?_⟩
      walk_at "rd"
      refine bools_ne (bs := told n) (SqL.of hm4) (SqL.of ?_) ?_
      · exact (f3.trans (f4.trans (f5.trans (f6.trans (f7.trans (f8.trans f9)))))) _ _ hm1
      walk_at "rd"
      exact ⟨_, _, _, _, _, _, rfl, by walk_at "same"⟩
    · rintro σ Hx ⟨w3, w4, w5, w6, w7, w8, rfl, sx⟩
      exact ⟨_, _, _, _, _, _, rfl, by walk_at "same"⟩
  · rintro σ H2 ⟨v3, v4, v5, v6, v7, v8, rfl, s2⟩
    exact k _
end
def fn : List He5.DefA :=
  ([dG "_law_mix" (top 35),
   dG "_law_source" (top 36),
   dG "_law_draw" (top 37),
   dG "_law_number" (top 38),
   dG "part_fault" (top 10),
   dG "quad_fault" (top 11),
   dG "read_quad" (top 12),
   dG "quad_parts" (top 13),
   dG "quad_text" (top 14),
   dG "is_integer" (top 29)] : List He5.DefA) ++
  ([dG "is_from" (top 30),
   dG "number_of" (top 32),
   dM "Address4" "__init__" "Address4.__init__" (inClass (top 33) 2),
   dM "Address4" "__str__" "Address4.__str__" (inClass (top 33) 12),
   dW "Address4" "property" "is_unspecified" "Address4.is_unspecified" (inClass (top 33) 8),
   dW "Address4" "property" "is_loopback" "Address4.is_loopback" (inClass (top 33) 9),
   dW "Address4" "property" "is_multicast" "Address4.is_multicast" (inClass (top 33) 10),
   dW "Address4" "property" "is_link_local" "Address4.is_link_local" (inClass (top 33) 11),
   dG "_law_told" (top 39),
   dG "_law_due" (top 40)] : List He5.DefA) ++
  ([dG "law" (top 41)] : List He5.DefA)
def fb : List (Frag → Bool) :=
  ([fun K => keepIn K (.ref (He.ga K "_law_mix")),
   fun K => (He.Fa.glo "_law_mix").ok K,
   fun K => (He.Fa.free "int").ok K,
   fun K => keepIn K (.ref (He.ga K "_law_source")),
   fun K => (He.Fa.glo "_law_source").ok K,
   fun K => (He.Fa.free "len").ok K,
   fun K => keepIn K (.ref (He.ga K "_law_draw")),
   fun K => (He.Fa.glo "_law_draw").ok K,
   fun K => keepIn K (.ref (He.ga K "_law_number")),
   fun K => (He.Fa.glo "_law_number").ok K] : List (Frag → Bool)) ++
  ([fun K => (He.Fa.free "min").ok K,
   fun K => (He.Fa.free "range").ok K,
   fun K => keepIn K (.ref (He.ga K "part_fault")),
   fun K => (He.Fa.glo "part_fault").ok K,
   fun K => (He.Fa.free "all").ok K,
   fun K => (He.Fa.str "DIGITS" "0123456789").ok K,
   fun K => keepIn K (.ref (He.ga K "quad_fault")),
   fun K => (He.Fa.glo "quad_fault").ok K,
   fun K => keepIn K (.ref (He.ga K "read_quad")),
   fun K => (He.Fa.glo "read_quad").ok K] : List (Frag → Bool)) ++
  ([fun K => keepIn K (.ref (He.ga K "quad_parts")),
   fun K => (He.Fa.glo "quad_parts").ok K,
   fun K => keepIn K (.ref (He.ga K "quad_text")),
   fun K => (He.Fa.glo "quad_text").ok K,
   fun K => keepIn K (.ref (He.ga K "is_integer")),
   fun K => (He.Fa.glo "is_integer").ok K,
   fun K => (He.Fa.free "isinstance").ok K,
   fun K => (He.Fa.free "bool").ok K,
   fun K => keepIn K (.ref (He.ga K "is_from")),
   fun K => (He.Fa.glo "is_from").ok K] : List (Frag → Bool)) ++
  ([fun K => keepIn K (.ref (He.ga K "number_of")),
   fun K => (He.Fa.glo "number_of").ok K,
   fun K => (He.Fa.free "str").ok K,
   fun K => (He.Fa.int "WIDTH4" 32).ok K,
   fun K => (He.Fa.glo "Address4").ok K,
   fun K => decide (kitOne K (.type "int") (.ref (He.ga K "Address4")) = some false),
   fun K => (He.Fa.cls "Address4").ok K,
   fun K => (He.Fa.noat "Address4" "number").ok K,
   fun K => decide (kitOne K (.type "str") (.ref (He.ga K "Address4")) = some false),
   fun K => tyB K "Address4"] : List (Frag → Bool)) ++
  ([fun K => decide (kitOne K (.ref (He.ga K "Address4")) (.ref (He.ga K "Address4")) = some true),
   fun K => (He.Fa.mkr "Address4").ok K,
   fun K => keepIn K (.ref (He.ga K "_law_told")),
   fun K => (He.Fa.glo "_law_told").ok K,
   fun K => propB K "Address4" "is_unspecified",
   fun K => propB K "Address4" "is_loopback",
   fun K => propB K "Address4" "is_multicast",
   fun K => propB K "Address4" "is_link_local",
   fun K => keepIn K (.ref (He.ga K "_law_due")),
   fun K => (He.Fa.glo "_law_due").ok K] : List (Frag → Bool)) ++
  ([fun K => (He.Fa.glo "law").ok K,
   fun K => (He.Fa.free "max").ok K,
   fun K => (He.Fa.meth "Address4" "__str__").ok K] : List (Frag → Bool))
theorem tx_of {K : Frag} {h : Heap} {mg : Str → Option Value} (X : K.In h) (G : h.Ns mainGlobals mg) (c : SaysM fb fn K) : Tx K mg where
  d__law_mix := c.def_ 0
  kp__law_mix := c.fact 0
  g__law_mix := He.glo_ok X G (c.fact 1)
  f_int := He.free_ok X G (c.fact 2)
  d__law_source := c.def_ 1
  kp__law_source := c.fact 3
  g__law_source := He.glo_ok X G (c.fact 4)
  f_len := He.free_ok X G (c.fact 5)
  d__law_draw := c.def_ 2
  kp__law_draw := c.fact 6
  g__law_draw := He.glo_ok X G (c.fact 7)
  d__law_number := c.def_ 3
  kp__law_number := c.fact 8
  g__law_number := He.glo_ok X G (c.fact 9)
  f_min := He.free_ok X G (c.fact 10)
  f_range := He.free_ok X G (c.fact 11)
  d_part_fault := c.def_ 4
  kp_part_fault := c.fact 12
  g_part_fault := He.glo_ok X G (c.fact 13)
  f_all := He.free_ok X G (c.fact 14)
  s_DIGITS := He.str_ok X G (c.fact 15)
  d_quad_fault := c.def_ 5
  kp_quad_fault := c.fact 16
  g_quad_fault := He.glo_ok X G (c.fact 17)
  d_read_quad := c.def_ 6
  kp_read_quad := c.fact 18
  g_read_quad := He.glo_ok X G (c.fact 19)
  d_quad_parts := c.def_ 7
  kp_quad_parts := c.fact 20
  g_quad_parts := He.glo_ok X G (c.fact 21)
  d_quad_text := c.def_ 8
  kp_quad_text := c.fact 22
  g_quad_text := He.glo_ok X G (c.fact 23)
  d_is_integer := c.def_ 9
  kp_is_integer := c.fact 24
  g_is_integer := He.glo_ok X G (c.fact 25)
  f_isinstance := He.free_ok X G (c.fact 26)
  f_bool := He.free_ok X G (c.fact 27)
  d_is_from := c.def_ 10
  kp_is_from := c.fact 28
  g_is_from := He.glo_ok X G (c.fact 29)
  d_number_of := c.def_ 11
  kp_number_of := c.fact 30
  g_number_of := He.glo_ok X G (c.fact 31)
  f_str := He.free_ok X G (c.fact 32)
  i_WIDTH4 := He.int_ok X G (c.fact 33)
  dm_Address4____init__ := c.def_ 12
  g_Address4 := He.glo_ok X G (c.fact 34)
  ki_int_Address4 := of_decide_eq_true (c.fact 35)
  c_Address4 := He.cls_ok (c.fact 36)
  na_Address4__number := He.noat_ok (c.fact 37)
  ki_str_Address4 := of_decide_eq_true (c.fact 38)
  ty_Address4 := tyB_ok (c.fact 39)
  ki_Address4_Address4 := of_decide_eq_true (c.fact 40)
  mk_Address4 := He.mkr_ok (c.fact 41)
  dm_Address4____str__ := c.def_ 13
  dm_Address4__is_unspecified := c.def_ 14
  dm_Address4__is_loopback := c.def_ 15
  dm_Address4__is_multicast := c.def_ 16
  dm_Address4__is_link_local := c.def_ 17
  d__law_told := c.def_ 18
  kp__law_told := c.fact 42
  g__law_told := He.glo_ok X G (c.fact 43)
  p_Address4__is_unspecified := propB_ok (c.fact 44)
  p_Address4__is_loopback := propB_ok (c.fact 45)
  p_Address4__is_multicast := propB_ok (c.fact 46)
  p_Address4__is_link_local := propB_ok (c.fact 47)
  d__law_due := c.def_ 19
  kp__law_due := c.fact 48
  g__law_due := He.glo_ok X G (c.fact 49)
  d_law := c.def_ 20
  g_law := He.glo_ok X G (c.fact 50)
  f_max := He.free_ok X G (c.fact 51)
  m_Address4____str__ := He.meth_ok (c.fact 52)
abbrev R : PySem.W.OpenRow := PySem.W.OpenLaw.row PySem.Challenge.rw_addressnets_k12_questions_of_version_4
abbrev hk : PySem.W.Hook := hookM 6 fb fn
def ob (s : PySem.W.SharedT) : He.AlD := obsMG 6 fb fn (HandSHeadRun.getT s)
theorem ob_eq (s : PySem.W.SharedT) : ob s = hk.obs s.abs := obsMG_eq (HandSHeadRun.getT_eq s)
def loose : List Str :=
  ([("_wall" : Str),
   ("NetError" : Str),
   ("BadKind" : Str),
   ("BadNumber" : Str),
   ("BadText" : Str),
   ("BadBytes" : Str),
   ("Mixed" : Str),
   ("DIGITS" : Str),
   ("part_fault" : Str),
   ("quad_fault" : Str),
   ("read_quad" : Str),
   ("quad_parts" : Str)] : List Str) ++
  ([("quad_text" : Str),
   ("HEX" : Str),
   ("quad_place" : Str),
   ("has_wrong_quad" : Str),
   ("has_wrong_gaps" : Str),
   ("has_wrong_ends" : Str),
   ("hex_groups" : Str),
   ("parts_of" : Str),
   ("has_wrong_count" : Str),
   ("groups_fault" : Str),
   ("hex_number" : Str),
   ("read_groups" : Str)] : List Str) ++
  ([("WIDTH4" : Str),
   ("is_integer" : Str),
   ("is_from" : Str),
   ("number_of" : Str),
   ("Address4" : Str),
   ("_law_mix" : Str),
   ("_law_source" : Str),
   ("_law_draw" : Str),
   ("_law_number" : Str),
   ("_law_told" : Str),
   ("_law_due" : Str)] : List Str)
theorem run (w : World) : HandSHeadRun.RunEq R (PySem.W.view R.prog [41]) hk ob 20000 loose w := by
  intro os
  kernel_rfl
end An
open PySem PySem.W PySem.Calls PyProof.Rows
theorem PySem.Challenge.cw_addressnets_k12_questions_of_version_4_holds : PySem.Challenge.rw_addressnets_k12_questions_of_version_4.Holds := by
  w_on; o_law
  refine HandSHeadRun.head_any (r := OpenLaw.row PySem.Challenge.rw_addressnets_k12_questions_of_version_4) (q := view (OpenLaw.row PySem.Challenge.rw_addressnets_k12_questions_of_version_4).prog [41]) (H := An.hk) (ob := An.ob) (M := 20000) (loose := An.loose) (d := HandSHeadRun.topDef (OpenLaw.row PySem.Challenge.rw_addressnets_k12_questions_of_version_4).prog 41) (kwd := []) An.ob_eq
    (by kernel_rfl) (fun s => by kernel_rfl) An.run (by kernel_rfl) (by kernel_rfl) (by kernel_rfl) (by rfl) (by first | assumption | decide +kernel) (by decide +kernel) ⟨rfl, rfl, rfl, rfl, rfl, by decide +kernel⟩ ?hw ?hc
  case hw => w_witness2
  case hc =>
    refine L2.walk_ofE (l := PySem.Challenge.rw_addressnets_k12_questions_of_version_4) (n := 63) (k := 7) (x := "_law_script") (CX := L2.CX0) rfl (by decide) (by kernel_rfl) ⟨rfl, by decide, by decide⟩ ?F (fun _ _ _ _ z => z)
    intro w mg fa h Y G hmg0
    obtain ⟨K, KX, c⟩ := Y
    have T := An.tx_of KX G c
    have hmg : mg ("law" : PySem.Str) = some (.ref fa) := by
      have e : (HandSHeadRun.topDef (OpenLaw.row PySem.Challenge.rw_addressnets_k12_questions_of_version_4).prog 41).name = ("law" : PySem.Str) := by kernel_rfl
      rw [← e]
      exact hmg0
    have e := hmg.symm.trans T.g_law
    cases e
    obtain ⟨fd, hb, hF⟩ := An.ok_law (P := (PySem.Challenge.rw_addressnets_k12_questions_of_version_4).prog) (w := w) T
    exact ⟨K, fd, An.sp_law K, KX, hb, fun H a ns hl _ hS => ⟨a, ns, rfl, hS, hl, fun _ => rfl⟩, fun base _ _ => hF base⟩
#print axioms PySem.Challenge.cw_addressnets_k12_questions_of_version_4_holds
