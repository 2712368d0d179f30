import PyProof.Rows.All
import Wide.All
import OpenK.AllK
import Wide.FinOn
import KE.RegKCallOwn
import KE.KFmtOwn
import HandS.ForMost
import HandS.Exc
import HandS.TryOnly
import HandS.ExcOwn
import HandS.WordsExc
import HandS.Defaults
import HandS.Flow
import HandS.Wide
import HandS.WideBits
import HandS.Star
import HandS.Property
import HandS.ClsMeth
import HandS.SlotsOwn
import HandS.IsInst
import HandS.FStr
import HandS.StrMore
import HandS.Evl
import HandS.Walk
import HandS.Style
import HandS.Head0
import HandS.Head1
import HandS.Head2
import HandS.HeadEnd
import HandS.HeadHook1
import HandS.HeadHook2
import HandS.HeadHook3
import HandS.HeadNt
import KE.KRevSl
import PySem.Challenge.RW_addressnets_k08_names_for_looking_up
set_option Elab.async false
set_option linter.all false
set_option maxRecDepth 100000
set_option maxHeartbeats 4000000
set_option pp.deepTerms false
set_option pp.deepTerms.threshold 5
set_option pp.maxSteps 1500
namespace An
open PySem PySem.W PySem.Spec PyProof.Rows L2 TL Bits
/-! ### a head's hook over any list of tests and any list of defs -/
def obsM (fb : List (Frag → Bool)) (fn : List He5.DefA) (K : Frag) : He.AlD := ((fb.all fun f => f K) && fn.all fun d => d.ok K, fn.map fun d => He5.fnA K (d.at_ K))
def SaysM (fb : List (Frag → Bool)) (fn : List He5.DefA) (K : Frag) : Prop := obsM fb fn K = He5.valA fn
def obsMG (n : Nat) (fb : List (Frag → Bool)) (fn : List He5.DefA) (g : Addr → Option Obj) : He.AlD := obsM fb fn (He.frG g (He5.asA g n))
def hookM (n : Nat) (fb : List (Frag → Bool)) (fn : List He5.DefA) : PySem.W.Hook where
  α := He.AlD
  obs := fun s => obsMG n fb fn s.heap.get?
  val := fun _ => He5.valA fn
  says := fun _ h => ∃ K : Frag, K.In h ∧ SaysM fb fn K
  of := fun _ _ e => ⟨_, He.frG_in, e⟩
  keeps := fun _ _ _ ⟨K, hK, c⟩ k => ⟨K, Frag.In.keeps hK k, c⟩
theorem obsMG_eq {n : Nat} {fb : List (Frag → Bool)} {fn : List He5.DefA} {g : Addr → Option Obj} {s : Shared} (h : ∀ a, g a = s.heap.get? a) : obsMG n fb fn g = (hookM n fb fn).obs s := by
  have e : g = s.heap.get? := funext h
  rw [e] <;> rfl
section
variable {fb : List (Frag → Bool)} {fn : List He5.DefA} {K : Frag}
theorem SaysM.fact (c : SaysM fb fn K) (i : Nat) {f : Frag → Bool} (h : fb[i]? = some f := by rfl) : f K = true := by
  have c1 := (He.ba (show ((fb.all fun f => f K) && fn.all fun d => d.ok K) = true from congrArg (fun z : He.AlD => z.1) c)).1
  exact List.all_eq_true.mp c1 f (List.mem_of_getElem? h)
theorem SaysM.def_ (c : SaysM fb fn K) (i : Nat) {d : He5.DefA} (h : fn[i]? = some d := by rfl) : ∃ fd, L2.FunD K d.name d.qual d.params d.body d.scope (d.dvs K) (d.kws K) (d.at_ K) fd := by
  have c2 := (He.ba (show ((fb.all fun f => f K) && fn.all fun d => d.ok K) = true from congrArg (fun z : He.AlD => z.1) c)).2
  have e : fn.map (fun d => He5.fnA K (d.at_ K)) = fn.map He5.DefA.val := congrArg (fun z : He.AlD => z.2) c
  have e2 : (fn.map fun d => He5.fnA K (d.at_ K))[i]? = (fn.map He5.DefA.val)[i]? := by rw [e]
  rw [List.getElem?_map, List.getElem?_map, h] at e2
  exact He5.DefA.funD (Option.some.inj e2) (List.all_eq_true.mp c2 d (List.mem_of_getElem? h))
end
def dG (x : Str) (st : Stmt) : He5.DefA := ⟨fun K => He.ga K x, x, x, defArgs st, defBody st, defScope st, [], []⟩
def dM (c m q : Str) (st : Stmt) : He5.DefA := ⟨fun K => He.ma K (He.ga K c) m, m, q, defArgs st, defBody st, defScope st, [], []⟩
/-- the getter of a property, the def of a classmethod -/
def wfA (K : Frag) (c : Str) (T : String) (m : Str) : Addr := He5.wf K (He.ga K c) T m
def dW (c : Str) (T : String) (m q : Str) (st : Stmt) : He5.DefA := ⟨fun K => wfA K c T m, m, q, defArgs st, defBody st, defScope st, [], []⟩
/-! ### a def of the text: no defaults -/
abbrev FnS (K : Frag) (x q : Str) (st : Stmt) (f : Addr) : Prop := ∃ fd, FunD K x q (defArgs st) (defBody st) (defScope st) [] [] f fd
abbrev Wc (P : Program) (w : World) (K : Frag) (mg : Str → Option Value) (base : Heap) (k : Nat) (f : Addr) (sp : Sp) : Prop := FnR P w K mg base (L2.CX P w) k f sp
section
variable {P : Program} {w : World} {K : Frag} {mg : Str → Option Value} {base : Heap}
theorem fnr {x q : Str} {st : Stmt} {f : Addr} {N ps : List Str} {k : Nat} {sp : Sp} (F : FnS K x q st f) (S : FnScope N ps (defScope st)) (len : ∀ vs H Q E, sp vs H Q E → vs.length = ps.length)
    (hb : ∀ (kV doc pm : Value) (an : Option Addr) (cdv ct : Value) (us : List Value), us.length = ps.length → bindArgs (PySem.W.fnOf x q (defArgs st) (defBody st) (defScope st) .none kV doc pm an cdv ct) ⟨us, []⟩ = pure (ps.zip us))
    (hbody : ∀ (cdv : Value) (A : Around) (outer : List Env) (s : Shared) (H : Hp) (vs : List V) (Q : VK) (E : XK), Room k (A.deeper (envOfC q (defScope st) s.heap.objs.size f cdv)) → sp vs H Q E →
      ∃ t, PSs (cxOf (L2.CX P w) P w K mg base N q (defScope st) f cdv A outer s H E) (defBody st) t ∧ t { nx := fun _ H' => Q .non H', rt := Q } (start N vs) H) : Wc P w K mg base (k + 1) f sp := by
  obtain ⟨fd, F⟩ := F
  have G := (F.ok (CX := L2.CX P w) (P := P) (w := w) (mg := mg) (base := base) S len hbody).raw (F.bindsN hb) .nil
  exact G.imp fun vs H Q E h => by rw [List.append_nil]; exact h
theorem Wc.or {k : Nat} {f : Addr} {sp sp' : Sp} (F : Wc P w K mg base k f sp) (G : Wc P w K mg base k f sp') : Wc P w K mg base k f (fun vs H Q E => sp vs H Q E ∨ sp' vs H Q E) :=
  fun A outer s H us vs Q E hr e0 r hs => hs.elim (F A outer s H us vs Q E hr e0 r) (G A outer s H us vs Q E hr e0 r)
end
/-- a def of the module, by its name -/
structure FnG (P : Program) (w : World) (K : Frag) (mg : Str → Option Value) (base : Heap) (k : Nat) (x : Str) (sp : Sp) : Prop where
  ok : Wc P w K mg base k (He.ga K x) sp
  kp : PySem.W.keepIn K (.ref (He.ga K x)) = true
  gl : mg x = some (.ref (He.ga K x))
section
variable {X : Cx} {k : Nat} {f C : Addr} {sp : Sp} {E : XK} {x m : Str} {p pos apos : Pos} {e o : Expr} {es : List Expr} {ta : TE} {t : TA}
def tF (sp : Sp) (E : XK) (t : TA) : TE := fun σ H Q => t σ H fun vs H1 => sp vs H1 Q E
theorem pe_f (F : FnG X.prog X.w X.K X.mg X.base k x sp) (hr : Room k X.A) (hx : Passes (L2.CX X.prog X.w) X E)
    (ha : PA X (e :: es) t) (hg : Gl X x := by rfl) (hdb : (x == ("__debug__" : Str)) = false := by decide) (he : starEach (e :: es) X.env = (false, eval e X.env) :: starEach es X.env := by rfl) (hpl : (backTo pos (starEach es X.env)).any (·.1) = false := by rfl) :
    PE X (.Call (.Name x p) (e :: es) [] pos) (tF sp E t) := by
  refine ⟨fun pins s σ H Q I h => ?_⟩
  refine wpAny_Call_Name_kw (ld_glob I hg F.gl ?_ hdb)
  refine PySem.W.callWith_K (h₀ := X.base) I.ok.mod.kin F.kp (thn (ha.run pos pins s σ H _ I h) fun us s1 ⟨vs, H1, I1, r, q⟩ => ⟨I1.kIn, ?_⟩) he hpl
  exact wpAny_call (run_fnR F.ok hr hx I1 r q)
theorem pe_never {e : Expr} : PE X e (fun _ _ _ => False) := ⟨fun _ _ _ _ _ _ h => h.elim⟩
theorem pss_never {l : List Stmt} : PSs X l (fun _ _ _ => False) := ⟨fun _ _ _ _ _ _ h => h.elim⟩
theorem pt_never {e : Expr} : PT X e (fun _ _ _ => False) := ⟨fun _ _ _ _ _ _ h => h.elim⟩
/-- a module's constant -/
theorem pe_gi {i : Int} (hm : ∃ t, X.mg x = some (.int i t)) (hg : Gl X x := by rfl) (hd : (x == ("__debug__" : Str)) = false := by decide) : PE X (.Name x pos) (tC (.int i)) := by
  obtain ⟨t, hm⟩ := hm
  exact pe_glob hg hm ⟨_, rfl⟩ hd
theorem pe_gs {z : Str} (hm : ∃ t, X.mg x = some (.str z t)) (hg : Gl X x := by rfl) (hd : (x == ("__debug__" : Str)) = false := by decide) : PE X (.Name x pos) (tC (.str z)) := by
  obtain ⟨t, hm⟩ := hm
  exact pe_glob hg hm ⟨_, rfl⟩ hd
end
/-! ### the built-in names -/
theorem bb_isinstance : bootBuiltins "isinstance" = some (.builtin "isinstance") := by decide +kernel
theorem bb_len : bootBuiltins "len" = some (.builtin "len") := by decide +kernel
theorem bb_max : bootBuiltins "max" = some (.builtin "max") := by decide +kernel
theorem bb_min : bootBuiltins "min" = some (.builtin "min") := by decide +kernel
theorem bb_all : bootBuiltins "all" = some (.builtin "all") := by decide +kernel
theorem bb_any : bootBuiltins "any" = some (.builtin "any") := by decide +kernel
theorem bb_sum : bootBuiltins "sum" = some (.builtin "sum") := by decide +kernel
theorem bb_sorted : bootBuiltins "sorted" = some (.builtin "sorted") := by decide +kernel
theorem bb_abs : bootBuiltins "abs" = some (.builtin "abs") := by decide +kernel
theorem bb_repr : bootBuiltins "repr" = some (.builtin "repr") := by decide +kernel
theorem bb_next : bootBuiltins "next" = some (.builtin "next") := by decide +kernel
theorem bb_ord : bootBuiltins "ord" = some (.builtin "ord") := by decide +kernel
theorem bb_chr : bootBuiltins "chr" = some (.builtin "chr") := by decide +kernel
theorem bb_divmod : bootBuiltins "divmod" = some (.builtin "divmod") := by decide +kernel
theorem bb_hash : bootBuiltins "hash" = some (.builtin "hash") := by decide +kernel
theorem bb_int : bootBuiltins "int" = some (.type "int") := by decide +kernel
theorem bb_str : bootBuiltins "str" = some (.type "str") := by decide +kernel
theorem bb_bool : bootBuiltins "bool" = some (.type "bool") := by decide +kernel
theorem bb_bytes : bootBuiltins "bytes" = some (.type "bytes") := by decide +kernel
theorem bb_list : bootBuiltins "list" = some (.type "list") := by decide +kernel
theorem bb_tuple : bootBuiltins "tuple" = some (.type "tuple") := by decide +kernel
theorem bb_dict : bootBuiltins "dict" = some (.type "dict") := by decide +kernel
theorem bb_set : bootBuiltins "set" = some (.type "set") := by decide +kernel
theorem bb_range : bootBuiltins "range" = some (.type "range") := by decide +kernel
theorem bb_enumerate : bootBuiltins "enumerate" = some (.type "enumerate") := by decide +kernel
theorem bb_zip : bootBuiltins "zip" = some (.type "zip") := by decide +kernel
theorem bb_object : bootBuiltins "object" = some (.type "object") := by decide +kernel
theorem bb_reversed : bootBuiltins "reversed" = some (.type "reversed") := by decide +kernel
end An
namespace An
open PySem PySem.W PySem.Spec PyProof.Rows L2 TL Bits
section
variable {X : Cx} {k : Nat} {C p g f : Addr} {sp : Sp} {E : XK} {x m : Str} {pos apos : Pos} {e o : Expr} {es : List Expr} {ta : TE} {t : TA}
/-! ### a property, by its getter's promise -/
def tPr (C : Addr) (sp : Sp) (ta : TE) : TE := fun σ H Q => ta σ H fun x H1 => ∃ a dx fs, x = .ref a ∧ H1 a = some (.ins C dx fs) ∧ sp [.ref a] H1 Q E0
theorem pe_pr (he : PE X e ta) (c : Cls X.K C) (hp : PropOf X.K C m p g) (F : Wc X.prog X.w X.K X.mg X.base k g sp) (hr : Room (k + 1) X.A) (hab : attributeBase e m X.env (eval e X.env) = eval e X.env := by rfl) :
    PE X (.Attribute e m pos) (tPr C sp ta) := by
  refine ⟨fun pins s σ H Q I h => attr_of hab (thn (he.run pins s σ H _ I h) fun u s1 hh => ?_)⟩
  obtain ⟨z, H1, I1, rz, a, dx, fs, rfl, ea, q⟩ := hh
  obtain rfl : u = Value.ref a := rz
  obtain ⟨mA, O, _⟩ := ins_get I1.hok ea
  obtain ⟨od, J, _⟩ := O.look
  obtain ⟨rest, hrec⟩ := hp.rec_
  have hc : (clsIn X.K C).isSome = true := by
    obtain ⟨cd, hc, _⟩ := any_some c.hd
    rw [hc] <;> rfl
  have I2 := I1.tok (s1.toks + 1)
  refine get_bind I1.kIn J (plainGet_of (c.get m)).1 (findObj_data hc hp.at_ hp.get hp.tak) (plainGet_of (c.get m)).2 (wpAny_call (prop_get (s := { s1 with toks := s1.toks + 1 }) I1.kIn hrec ?_))
  refine codeAny_mono (F X.A.in1 X.stack { s1 with toks := s1.toks + 1 } H1 [.ref a] [.ref a] Q E0 hr.in1 I2.env0.in1 (.cons rfl .nil) q) fun r s' hq => ?_
  match r, hq with
  | .error er, hq =>
    obtain ⟨_, _, _, _, _, _, _, _, _, _, _, _, z⟩ := (show L2.CX X.prog X.w X.stack H1 _ E0 er s' from hq)
    exact z.elim
  | .ok (.ret u), hq =>
    obtain ⟨v, H', I3, rv, q3⟩ := I2.after hq
    show wpAny _ _ (handedOut u) _ _ _
    rw [handedOut_of (handed_of rv)]
    exact wpAny_pure ⟨v, H', I3, rv, q3⟩
/-! ### o.m() by a promise -/
def tM0R (C : Addr) (m : Str) (sp : Sp) (E : XK) (ta : TE) : TE := fun σ H Q => ta σ H fun x H1 => ∃ a dx fs, x = .ref a ∧ H1 a = some (.ins C dx fs) ∧ fs.lookup m = none ∧ sp [x] H1 Q E
theorem pe_mt0R {pl : Sem Bool} (he : PE X o ta) (c : Cls X.K C) (hm : Meth X.K C m f) (F : Wc X.prog X.w X.K X.mg X.base k f sp) (hr : Room k X.A) (hx : Passes (L2.CX X.prog X.w) X E)
    (ht : eval (.Call (.Attribute o m apos) [] [] pos) X.env = (do
      let ov ← eval o X.env
      standAt apos.atName
      let (f, first) ← holding [ov] (getMethod ov m pl)
      callWith pos f first (backTo pos (starEach [] X.env)) (backToKw pos (keywordEach [] X.env))) := by rfl) :
    PE X (.Call (.Attribute o m apos) [] [] pos) (tM0R C m sp E ta) := by
  refine ⟨fun pins s σ H Q I h => methodCall_KW (pl := pl) (thn (he.run pins s σ H _ I h) fun u s1 hh => ?_) ht⟩
  obtain ⟨z, H1, I1, rz, a, dx, fs, rfl, ea, l, q⟩ := hh
  obtain rfl : u = Value.ref a := rz
  exact getmeth_ok I1 ea c hm l (callWith_K0 (first := [.ref a]) I1.kIn hm.kp (wpAny_call (run_fnR (us := [.ref a]) (vs := [.ref a]) F hr hx I1 (.cons rfl .nil) q)))
/-! ### str(o) by an own __str__ -/
def rStrOwn (C : Addr) (sp : Sp) (E : XK) : List V → Hp → VK → Prop := fun xs H Q => ∃ a dx fs, xs = [V.ref a] ∧ H a = some (.ins C dx fs) ∧ sp [.ref a] H (fun z H' => ∃ y, z = .str y ∧ Q z H') E
theorem call_strOwn (hm : Meth X.K C "__str__" g) (F : Wc X.prog X.w X.K X.mg X.base k g sp) (hr : Room (k + 2) X.A) (hx : Passes (L2.CX X.prog X.w) X E) : CallR X (.type "str") (rStrOwn C sp E) := by
  intro pins s σ H xs us Q I r h
  obtain ⟨a, dx, fs, rfl, ea, q⟩ := h
  obtain ⟨u, rfl, ru⟩ := r.one
  cases (show u = Value.ref a from ru)
  obtain ⟨mA, O, _⟩ := ins_get I.hok ea
  obtain ⟨od, J, _⟩ := O.look
  have hr2 : Room k X.A.in1.in1 := (show Room (k + 1) X.A.in1 from Room.in1 hr).in1
  refine kso_call hr2.units0 I.kIn J hm.at_ hm.fn (wpAny_mono (wpAny_call (SlX.run_at (us := [.ref a]) (ws := [.ref a]) F hr2 I.env0.in1.in1 hx I (.cons rfl .nil) q)) (fun w s' z => ?_) fun _ _ x => x)
  obtain ⟨z', H', I', rz, y, ey, qz⟩ := z
  subst ey
  obtain ⟨t, e⟩ := (show ∃ t, w = Value.str y t from rz)
  cases e
  exact ⟨.str y, H', I', ⟨t, rfl⟩, qz⟩
end
/-! ### xs + ys of any two lists that are read -/
section
variable {X : Cx}
def rCatL (K : Frag) : R2 := fun x y H Q => ∃ l b xs zs, x = .ref l ∧ y = .ref b ∧ SqL K H l xs ∧ SqL K H b zs ∧ xs.length + zs.length ≤ sizeLine ∧ ∀ p, H p = none → Q (.ref p) (upd H p (.lst (xs ++ zs)))
theorem op_catL : OpR X (binaryOp .Add) (rCatL X.K) := by
  intro pins s σ H x y v u Q I rx ry h
  obtain ⟨l, b, xs, zs, rfl, rfl, h1, h2, hz, q⟩ := h
  cases rx; cases ry
  obtain ⟨i1, r1, p1, _⟩ := I.list h1
  obtain ⟨i2, r2, p2, _⟩ := I.list h2
  obtain ⟨⟨c1, d1, t1, l1⟩, n1, e1, a1, b1, g1⟩ := p1
  obtain ⟨⟨c2, d2, t2, l2⟩, n2, e2, a2, b2, g2⟩ := p2
  dsimp only at a1 b1 g1 a2 b2 g2
  subst a1 b1 g1 a2 b2 g2
  have z1 := r1.length
  have z2 := r2.length
  refine concat_meets ⟨_, e1, rfl⟩ ⟨_, e2, rfl⟩ noFill_list_add seq_list_add PySem.F.slot_list_add PySem.F.entry_list_add (PySem.F.args_list_add_2 _ _) (list_addW l b i1.toArray i2.toArray n1 n2 none none l1 l2 (by rw [List.size_toArray, List.size_toArray]; omega)) ⟨e1, e2, ?_⟩
  have ea : i1.toArray ++ i2.toArray = (i1 ++ i2).toArray := by simp
  rw [ea]
  exact ⟨.ref _, _, I.lnew (t' := s.toks) (r1.append r2) (by rw [List.length_append]; omega), rfl, q _ I.fresh⟩
end
/-! ### passing on what a callee raises -/
theorem lz {a b : Nat} (h : Nat.ble a b = true := by rfl) : a ≤ b := Nat.le_of_ble_eq_true h
theorem upd_eq {H : Hp} {a : Addr} {o : HO} : upd H a o a = some o := if_pos rfl
theorem same_new {H H' : Hp} {p : Addr} {o : HO} (e : Same H H') (hp : H' p = none) : Same H (upd H' p o) := fun b u h => by
  rw [upd_ne (ne_of_none (e b u h) hp)]
  exact e b u h
/-- a property of a class -/
def propB (K : Frag) (c m : Str) : Bool := He.eqO (findIn K (.ref (He.ga K c)) m) (some (some (.ref (He.ma K (He.ga K c) m)))) &&
  (He.eqO (specialIn K (.ref (He.ma K (He.ga K c) m)) "__get__") (some (some (.builtin "property.__get__"))) && (decide (takesIn K (.ref (He.ma K (He.ga K c) m)) = some true) &&
  (match recIn K (He.ma K (He.ga K c) m) "property" with
    | some (.ref _ :: _) => true
    | _ => false)))
theorem propB_ok {K : Frag} {c m : Str} (h : propB K c m = true) : PropOf K (He.ga K c) m (He.ma K (He.ga K c) m) (wfA K c "property" m) := by
  obtain ⟨h1, h⟩ := He.ba h
  obtain ⟨h2, h⟩ := He.ba h
  obtain ⟨h3, h4⟩ := He.ba h
  refine ⟨He.eqO_ok h1, He.eqO_ok h2, of_decide_eq_true h3, ?_⟩
  unfold wfA He5.wf
  split at h4
  · rename_i f r e
    exact ⟨r, by rw [e]⟩
  · cases h4
/-- what isinstance asks of a class of one's own -/
structure TyI (K : Frag) (C : Addr) : Prop where
  cl : Cls K C
  ha : findIn K (.ref C) "__class__" = some (some (.builtin "object.__class__"))
  hn : specialIn K (.builtin "object.__class__") "__get__" = some (some (.builtin "getset_descriptor.__get__"))
  htk : takesIn K (.builtin "object.__class__") = some true
  hm : mroIn K C (.type "object") = some true
def tyB (K : Frag) (x : Str) : Bool := (He.Fa.cls x).ok K && (He.eqO (findIn K (.ref (He.ga K x)) "__class__") (some (some (.builtin "object.__class__"))) &&
  (He.eqO (specialIn K (.builtin "object.__class__") "__get__") (some (some (.builtin "getset_descriptor.__get__"))) && (decide (takesIn K (.builtin "object.__class__") = some true) && decide (mroIn K (He.ga K x) (.type "object") = some true))))
theorem tyB_ok {K : Frag} {x : Str} (h : tyB K x = true) : TyI K (He.ga K x) := by
  obtain ⟨h1, h⟩ := He.ba h
  obtain ⟨h2, h⟩ := He.ba h
  obtain ⟨h3, h⟩ := He.ba h
  obtain ⟨h4, h5⟩ := He.ba h
  exact ⟨He.cls_ok h1, He.eqO_ok h2, He.eqO_ok h3, of_decide_eq_true h4, of_decide_eq_true h5⟩
theorem TyI.tx {K : Frag} {C a dx : Addr} {H : Hp} {fs : List (Str × V)} (t : TyI K C) (e : H a = some (.ins C dx fs)) : TyX K H (.ref a) (.ref C) := .base (.ins e t.cl t.ha t.hn t.htk t.hm)
/-! ### a list of three ints that changes; all else stays -/
def Srcs (H : Hp) (a : Addr) : Prop := ∃ x y z : Int, H a = some (.lst [.int x, .int y, .int z])
def But (a : Addr) (H H' : Hp) : Prop := ∀ c o, H c = some o → c ≠ a → H' c = some o
theorem But.refl (a : Addr) (H : Hp) : But a H H := fun _ _ h _ => h
theorem But.trans {a : Addr} {H H1 H2 : Hp} (e : But a H H1) (f : But a H1 H2) : But a H H2 := fun c o h n => f c o (e c o h n) n
theorem But.same {a : Addr} {H H1 H2 : Hp} (e : But a H H1) (f : Same H1 H2) : But a H H2 := fun c o h n => f c o (e c o h n)
theorem same_but {a : Addr} {H H1 H2 : Hp} (e : Same H H1) (f : But a H1 H2) : But a H H2 := fun c o h n => f c o (e c o h) n
theorem but_of {a : Addr} {H H1 : Hp} (e : Same H H1) : But a H H1 := fun c o h _ => e c o h
theorem But.same0 {a : Addr} {H H1 : Hp} (e : But a H H1) (h : H a = none) : Same H H1 := fun c o k => e c o k (fun z => by rw [z, h] at k; cases k)
theorem But.upd {a : Addr} {H H1 : Hp} {o : HO} (e : But a H H1) : But a H (upd H1 a o) := fun c u h n => by rw [upd_ne n]; exact e c u h n
theorem But.new {a p : Addr} {H H1 : Hp} {o : HO} (e : But a H H1) (hp : H1 p = none) : But a H (L2.upd H1 p o) := e.same (same_new (Same.refl _) hp)
theorem Srcs.same {H H' : Hp} {a : Addr} (h : Srcs H a) (e : Same H H') : Srcs H' a := by
  obtain ⟨x, y, z, h⟩ := h
  exact ⟨x, y, z, e _ _ h⟩
theorem Srcs.new {H : Hp} {a p : Addr} {o : HO} (h : Srcs H a) (hp : H p = none) : Srcs (L2.upd H p o) a := h.same (same_new (Same.refl _) hp)
theorem Srcs.ne {H : Hp} {a p : Addr} (h : Srcs H a) (hp : H p = none) : p ≠ a := fun z => by
  obtain ⟨x, y, w, h⟩ := h
  rw [← z, hp] at h
  cases h
theorem Srcs.neO {H : Hp} {a p : Addr} {o : HO} (h : Srcs H a) (hp : H p = some o) (no : ∀ xs, o ≠ .lst xs) : p ≠ a := fun z => by
  obtain ⟨x, y, w, h⟩ := h
  rw [← z, hp] at h
  exact no _ (Option.some.inj h)
/-! ### an item of a list, drawn -/
theorem fa_nil {α : Type} {P : α → Prop} : ∀ v ∈ ([] : List α), P v := fun _ h => by cases h
theorem fa_cons {α : Type} {P : α → Prop} {x : α} {xs : List α} (h : P x) (t : ∀ v ∈ xs, P v) : ∀ v ∈ x :: xs, P v := fun v hv => by
  rcases List.mem_cons.mp hv with e | e
  · rw [e]; exact h
  · exact t v e
theorem pick {xs : List V} {P : V → Prop} {r : Int} (h0 : 0 ≤ r) (h1 : r < xs.length) (h : ∀ v ∈ xs, P v) : ∃ v, atI xs r = some v ∧ P v := by
  have hlt : r.toNat < xs.length := by omega
  refine ⟨xs[r.toNat], ?_, h _ (List.getElem_mem hlt)⟩
  have e := atI_nat (List.getElem?_eq_getElem hlt)
  rwa [Int.toNat_of_nonneg h0] at e
/-- a value that is an int within bounds -/
def IntB (lo hi : Int) (v : V) : Prop := ∃ i : Int, v = .int i ∧ lo ≤ i ∧ i < hi
theorem e32 : (2 : Int) ^ Int.toNat 32 = 4294967296 := by decide +kernel
theorem e128 : (2 : Int) ^ Int.toNat 128 = 340282366920938463463374607431768211456 := by decide +kernel
theorem e8 : (2 : Int) ^ Int.toNat 8 = 256 := by decide +kernel
theorem e16 : (2 : Int) ^ Int.toNat 16 = 65536 := by decide +kernel
theorem pow_pos' (n : Nat) : (1 : Int) ≤ 2 ^ n := by
  have h : 0 < 2 ^ n := Nat.pow_pos (by decide)
  have e : ((2 ^ n : Nat) : Int) = 2 ^ n := by simp
  omega
/-- one more digit -/
theorem dig_lt {B f v : Int} {i : Nat} (hB : 0 < B) (h0 : 0 ≤ f) (h1 : f < B ^ i) (v0 : 0 ≤ v) (v1 : v < B) : 0 ≤ f * B + v ∧ f * B + v < B ^ (i + 1) := by
  have a : 0 ≤ f * B := Int.mul_nonneg h0 (Int.le_of_lt hB)
  have b : (f + 1) * B ≤ B ^ i * B := Int.mul_le_mul_of_nonneg_right (by omega) (Int.le_of_lt hB)
  rw [Int.add_mul, Int.one_mul] at b
  rw [Int.pow_succ]
  omega
/-! ### comprehensions: the items xs by it, kept by p, each gives f -/
section
variable {J : It} {G : Hp → Prop} {Y : Nat → Hp → V → Hp → Prop} {α : Type}
theorem take_succ' {xs : List α} {i : Nat} {c : α} (h : xs[i]? = some c) : xs.take (i + 1) = xs.take i ++ [c] := by
  rw [List.take_add_one, h]; rfl
theorem lc_fm (xs : List α) (it : α → V) (f : α → V) (p : α → Bool) {n : Nat} (w : Walk J n G Y) (hn : n = xs.length) (hz : xs.length < sizeLine) {g : TG} {tt : TT} {te : TE} {vs : List Nat} {σ : L2.St} {H1 : Hp} {D : Addr} {Qd : Hp → Prop}
    (hY : ∀ i H x H', Y i H x H' → H' = H ∧ ∃ c, xs[i]? = some c ∧ x = it c) (hD : H1 D = none) (hG : ∀ H', Same H1 H' → G H')
    (hs : ∀ c ∈ xs, ∀ H, Same H1 H → ∀ (Qt : Hp → Prop) (Qe : V → Hp → Prop), (∀ H', Same H H' → p c = false → Qt H') → (∀ H', Same H H' → p c = true → Qe (f c) H') →
      g (it c) (wipe σ vs) H fun σ2 H2 => wipe σ2 vs = wipe σ vs ∧ tt σ2 H2 fun b H3 => if b = true then te σ2 H3 Qe else Qt H3)
    (hd : ∀ H', Same H1 H' → H' D = some (.lst ((xs.filter p).map f)) → Qd H') :
    ∃ W : Nat → Nat → Hp → Prop, (∃ m, W 0 m (upd H1 D (.lst []))) ∧ ∀ i m H, W i m H →
      (J.stop i H ∧ Qd H) ∨ (J.go i H ∧ ∃ Nx : Hp → Prop, (∀ H', Nx H' → ∃ m', m' < m ∧ W (i + 1) m' H') ∧ ∀ x H', J.yld i H x H' → g x (wipe σ vs) H' fun σ2 H2 => wipe σ2 vs = wipe σ vs ∧ tt σ2 H2 fun b H3 =>
        if b = true then te σ2 H3 fun y H4 => ∃ acc, H4 D = some (.lst acc) ∧ acc.length < sizeLine ∧ Nx (upd H4 D (.lst (acc ++ [y]))) else Nx H3) := by
  subst hn
  refine lc_it w (fun i H => Same H1 H ∧ H D = some (.lst (((xs.take i).filter p).map f))) ⟨same_new (Same.refl _) hD, upd_same⟩ (fun i H _ h => hG H h.1) ?_ ?_
  · rintro i x H H' hi ⟨sm, hl⟩ y
    obtain ⟨rfl, c, hc, rfl⟩ := hY i H x H' y
    refine hs c (List.mem_of_getElem? hc) _ sm _ _ (fun H2 s2 hp => ⟨sm.trans s2, ?_⟩) (fun H2 s2 hp => ⟨_, s2 _ _ hl, ?_, ?_, ?_⟩)
    · rw [take_succ' hc, List.filter_append]
      have e : [c].filter p = [] := by simp [hp]
      rw [e, List.append_nil]
      exact s2 _ _ hl
    · rw [List.length_map]
      refine Nat.lt_of_le_of_lt (List.length_filter_le _ _) (Nat.lt_of_le_of_lt ?_ hz)
      rw [List.length_take]; omega
    · intro b o hb
      rw [upd_ne (fun z => by rw [z, hD] at hb; cases hb)]
      exact s2 _ _ (sm _ _ hb)
    · rw [upd_same, take_succ' hc, List.filter_append, List.map_append]
      have e : [c].filter p = [c] := by simp [hp]
      rw [e]; rfl
  · rintro H ⟨sm, hl⟩
    refine hd H sm ?_
    rw [List.take_length] at hl
    exact hl
theorem lc_mp (xs : List α) (it : α → V) (f : α → V) {n : Nat} (w : Walk J n G Y) (hn : n = xs.length) (hz : xs.length < sizeLine) {g : TG} {te : TE} {vs : List Nat} {σ : L2.St} {H1 : Hp} {D : Addr} {Qd : Hp → Prop}
    (hY : ∀ i H x H', Y i H x H' → H' = H ∧ ∃ c, xs[i]? = some c ∧ x = it c) (hD : H1 D = none) (hG : ∀ H', Same H1 H' → G H')
    (hs : ∀ c ∈ xs, ∀ H, Same H1 H → ∀ (Qe : V → Hp → Prop), (∀ H', Same H H' → Qe (f c) H') → g (it c) (wipe σ vs) H fun σ2 H2 => wipe σ2 vs = wipe σ vs ∧ te σ2 H2 Qe)
    (hd : ∀ H', Same H1 H' → H' D = some (.lst (xs.map f)) → Qd H') :
    ∃ W : Nat → Nat → Hp → Prop, (∃ m, W 0 m (upd H1 D (.lst []))) ∧ ∀ i m H, W i m H →
      (J.stop i H ∧ Qd H) ∨ (J.go i H ∧ ∃ Nx : Hp → Prop, (∀ H', Nx H' → ∃ m', m' < m ∧ W (i + 1) m' H') ∧ ∀ x H', J.yld i H x H' → g x (wipe σ vs) H' fun σ2 H2 => wipe σ2 vs = wipe σ vs ∧ tYes σ2 H2 fun b H3 =>
        if b = true then te σ2 H3 fun y H4 => ∃ acc, H4 D = some (.lst acc) ∧ acc.length < sizeLine ∧ Nx (upd H4 D (.lst (acc ++ [y]))) else Nx H3) := by
  refine lc_fm xs it f (fun _ => true) w hn hz hY hD hG ?_ ?_
  · intro c hc H sm Qt Qe _ k
    have z := hs c hc H sm Qe (fun H' s' => k H' s' rfl)
    have e : (fun (σ2 : L2.St) (H2 : Hp) => wipe σ2 vs = wipe σ vs ∧ tYes σ2 H2 fun b H3 => if b = true then te σ2 H3 Qe else Qt H3) = fun σ2 H2 => wipe σ2 vs = wipe σ vs ∧ te σ2 H2 Qe := by
      funext σ2 H2
      show (_ ∧ (if true = true then te σ2 H2 Qe else Qt H2)) = _
      rw [if_pos rfl]
    rw [e]
    exact z
  · intro H' sm h
    refine hd H' sm ?_
    have e : xs.filter (fun _ => true) = xs := by simp
    rw [e] at h
    exact h
theorem yat_all {xs : List V} : ∀ i H x H', YAt xs i H x H' → H' = H ∧ ∃ c, xs[i]? = some c ∧ x = id c := fun _ _ _ _ h => ⟨h.1, _, h.2, rfl⟩
theorem yat_map {xs : List α} {it : α → V} : ∀ i H x H', YAt (xs.map it) i H x H' → H' = H ∧ ∃ c, xs[i]? = some c ∧ x = it c := fun i _ x _ h => by
  refine ⟨h.1, ?_⟩
  have e := h.2
  rw [List.getElem?_map] at e
  cases q : xs[i]? with
  | none => rw [q] at e; cases e
  | some c => rw [q] at e; exact ⟨c, rfl, (Option.some.inj e).symm⟩
/-- one sign as a text -/
def sgn (c : Nat) : V := .str ⟨#[c]⟩
theorem ystr {z : Str} : ∀ (i : Nat) (H : Hp) (v : V) (H' : Hp), (fun (i : Nat) (H : Hp) (v : V) (H' : Hp) => H' = H ∧ ∃ c, z.cps[i]? = some c ∧ v = V.str ⟨#[c]⟩) i H v H' → H' = H ∧ ∃ c, (tl z)[i]? = some c ∧ v = sgn c := fun i H v H' h => by
  obtain ⟨h1, c, hc, h2⟩ := h
  exact ⟨h1, c, by rw [← hc]; unfold tl; simp, h2⟩
theorem size_tl (z : Str) : z.cps.size = (tl z).length := by unfold tl; simp
end
/-! ### a class, called: its promise out of its __init__'s -/
structure FnC (P : Program) (w : World) (K : Frag) (mg : Str → Option Value) (base : Heap) (k : Nat) (x : Str) (sp : Sp) : Prop where
  ex : ∃ (f : Addr) (si : Sp), Mk K (He.ga K x) f ∧ Wc P w K mg base k f si ∧ ∀ vs H Q E, sp vs H Q E → ∀ a dx : Addr, H a = none → H dx = none → dx ≠ a →
    si (.ref a :: vs) (upd (upd H dx (.own a)) a (.ins (He.ga K x) dx [])) (fun v H2 => v = .non ∧ Q (.ref a) H2) E
  gl : mg x = some (.ref (He.ga K x))
section
variable {X : Cx} {k : Nat} {sp : Sp} {E : XK} {x : Str} {p pos : Pos} {e : Expr} {es : List Expr} {t : TA}
theorem pe_cl (F : FnC X.prog X.w X.K X.mg X.base k x sp) (hr : Room (k + 1) X.A) (hx : Passes (L2.CX X.prog X.w) X E) (ha : PA X (e :: es) t) (hg : Gl X x := by rfl) (hdb : (x == ("__debug__" : Str)) = false := by decide)
    (he : starEach (e :: es) X.env = (false, eval e X.env) :: starEach es X.env := by rfl) (hpl : (backTo pos (starEach es X.env)).any (·.1) = false := by rfl) :
    PE X (.Call (.Name x p) (e :: es) [] pos) (tF sp E t) := by
  obtain ⟨f, si, M, G, im⟩ := F.ex
  refine ⟨fun pins s σ H Q I h => wpAny_Call_Name_kw (ld_glob I hg F.gl ?_ hdb)⟩
  exact PySem.W.callWith_K (h₀ := X.base) I.ok.mod.kin M.kp (thn (ha.run pos pins s σ H _ I h) fun us s1 ⟨vs, H1, I1, r, q⟩ => ⟨I1.kIn, StX.run_makeR M G hr hx I1 r (im vs H1 Q E q)⟩) he hpl
end
theorem and255 {x : Int} (h : 0 ≤ x) : Builtin.bitAnd x 255 = x % 256 := bitAnd_mask 8 h
theorem and65535 {x : Int} (h : 0 ≤ x) : Builtin.bitAnd x 65535 = x % 65536 := bitAnd_mask 16 h
theorem log_small {i : Int} (h0 : 0 ≤ i) (h1 : i < 2 ^ 200) : i.natAbs.log2 < 1920 := by
  by_cases z : i.natAbs = 0
  · rw [z]; decide
  · refine (Nat.log2_lt z).mpr (Nat.lt_of_lt_of_le (m := 2 ^ 200) ?_ (Nat.pow_le_pow_right (by decide) (by decide)))
    have e : (i.natAbs : Int) = i := by omega
    have e2 : ((2 ^ 200 : Nat) : Int) = 2 ^ 200 := by decide +kernel
    omega
theorem max_min8 (n : Int) (h : 0 ≤ n) (b : Int) (hb : 1 ≤ b) : ∃ N : Int, (if (if n < b then n else b) > 1 then (if n < b then n else b) else 1) = N ∧ 1 ≤ N ∧ N ≤ b := ⟨_, rfl, by split <;> split <;> omega, by split <;> split <;> omega⟩
/-- an object that is no list stays where a source changes -/
theorem But.keep {a : Addr} {H H' : Hp} {p : Addr} {o : HO} (e : But a H H') (S : Srcs H a) (h : H p = some o) (no : ∀ xs, o ≠ .lst xs) : H' p = some o := e p o h (S.neO h no)
theorem but_same {H H1 H2 : Hp} {p : Addr} (e : Same H H1) (B : But p H1 H2) (np : H p = none) : Same H H2 := fun c o h => B c o (e c o h) (fun z => by rw [z, np] at h; cases h)
/-! ### the rules that speak of the written part, by its name -/
def rLenQ (K : Frag) : List V → Hp → VK → Prop := fun xs H Q => ∃ p ys, xs = [V.ref p] ∧ (SqL K H p ys ∨ SqT K H p ys) ∧ Q (.int ys.length) H
def rLenV (K : Frag) : List V → Hp → VK → Prop := fun xs H Q => ∃ x n, xs = [x] ∧ LenV K x H n ∧ Q (.int (n : Int)) H
def rListQ (K : Frag) : List V → Hp → VK → Prop := fun xs H Q => ∃ p ys, xs = [V.ref p] ∧ (SqL K H p ys ∨ SqT K H p ys) ∧ ∀ l, H l = none → Q (.ref l) (upd H l (.lst ys))
def rTupleQ (K : Frag) : List V → Hp → VK → Prop := fun xs H Q => ∃ p ys, xs = [V.ref p] ∧ ((SqL K H p ys ∧ ∀ l, H l = none → Q (.ref l) (upd H l (.tup ys))) ∨ (SqT K H p ys ∧ Q (.ref p) H))
section
variable {X : Cx}
theorem c_lenq (K : Frag) (e : X.K = K := by rfl) : CallR X (.builtin "len") (rLenQ K) := by subst e; exact call_len_seq
theorem c_lenv (K : Frag) (e : X.K = K := by rfl) : CallR X (.builtin "len") (rLenV K) := by subst e; exact call_len
theorem c_isi (K : Frag) (e : X.K = K := by rfl) : CallR X (.builtin "isinstance") (rIsi K) := by subst e; exact call_isi
theorem c_isiT (K : Frag) (e : X.K = K := by rfl) : CallR X (.builtin "isinstance") (rIsiT K) := by subst e; exact call_isiT
theorem c_all (K : Frag) (hc : X.calm = true) (e : X.K = K := by rfl) : CallR X (.builtin "all") (rAll K) := by subst e; exact cr_all hc
theorem c_any (K : Frag) (hc : X.calm = true) (e : X.K = K := by rfl) : CallR X (.builtin "any") (rAny K) := by subst e; exact cr_any hc
theorem c_sum (K : Frag) (hc : X.calm = true) (e : X.K = K := by rfl) : CallR X (.builtin "sum") (rSum K) := by subst e; exact cr_sum hc
theorem c_list (K : Frag) (e : X.K = K := by rfl) : CallR X (.type "list") (rListQ K) := by subst e; exact call_list_of
theorem c_tuple (K : Frag) (e : X.K = K := by rfl) : CallR X (.type "tuple") (rTupleQ K) := by subst e; exact call_tuple_of
theorem o_inq (K : Frag) (e : X.K = K := by rfl) : OpR X (compareOp .In) (rIn K false) := by subst e; exact op_in_seq
theorem o_notInq (K : Frag) (e : X.K = K := by rfl) : OpR X (compareOp .NotIn) (rIn K true) := by subst e; exact op_notIn_seq
theorem o_eqD (K : Frag) (hu : X.A.units + 64 < cLine) (e : X.K = K := by rfl) : OpR X (compareOp .Eq) (rEqD K) := by subst e; exact op_eqD hu
theorem o_neD (K : Frag) (hu : X.A.units + 64 < cLine) (e : X.K = K := by rfl) : OpR X (compareOp .NotEq) (rNeD K) := by subst e; exact op_neD hu
theorem o_catL (K : Frag) (e : X.K = K := by rfl) : OpR X (binaryOp .Add) (rCatL K) := by subst e; exact op_catL
theorem x_list (K : Frag) (e : X.K = K := by rfl) : IxR X (rIxL K) := by subst e; exact ix_list
theorem x_tup (K : Frag) (e : X.K = K := by rfl) : IxR X (rIxT K) := by subst e; exact ix_tup
theorem s_list (K : Frag) (e : X.K = K := by rfl) : SlR X (rSlL K) := by subst e; exact sl_list
theorem s_tup (K : Frag) (e : X.K = K := by rfl) : SlR X (rSlT K) := by subst e; exact sl_tup
theorem p_fld (K : Frag) {o : Expr} {f : Str} {ta : TE} {pos : Pos} (he : PE X o ta) (hb : attributeBase o f X.env (eval o X.env) = eval o X.env := by rfl) (e : X.K = K := by rfl) : PE X (.Attribute o f pos) (tFld K ta f) := by subst e; exact pe_fld he hb
theorem p_con (K : Frag) {o : Expr} {f : Str} {ta : TE} {pos : Pos} (he : PE X o ta) (hb : attributeBase o f X.env (eval o X.env) = eval o X.env := by rfl) (e : X.K = K := by rfl) : PE X (.Attribute o f pos) (tCon K ta f) := by subst e; exact pe_con he hb
theorem i_list (K : Frag) {tg l : Expr} {tl : TE} (hl : PE X l tl) (e : X.K = K := by rfl) : PI X tg l (iList K tl) := by subst e; exact pi_list hl
theorem i_tup (K : Frag) {tg l : Expr} {tl : TE} (hl : PE X l tl) (e : X.K = K := by rfl) : PI X tg l (iTup K tl) := by subst e; exact pi_tup hl
theorem p_revL (K : Frag) {o : Expr} {te : TE} {k : Nat} {p1 p2 p3 pos : Pos} (he : PE X o te) (e : X.K = K := by rfl) : PE X (.Subscript o (.Slice none none (some (.UnaryOp .USub (.Constant (.int 1) k p1) p2)) p3) pos) (tRevL K te) := by subst e; exact pe_revL he
theorem p_orT (K : Frag) {a b : Expr} {rest : List Expr} {pos : Pos} {ta tb : TE} (ha : PE X a ta) (hb : PE X (.BoolOp .Or (b :: rest) pos) tb) (e : X.K = K := by rfl) : PE X (.BoolOp .Or (a :: b :: rest) pos) (tOrT K ta tb) := by subst e; exact pe_orT ha hb
theorem p_notT (K : Frag) {a : Expr} {pos : Pos} {ta : TE} (ha : PE X a ta) (e : X.K = K := by rfl) : PE X (.UnaryOp .Not a pos) (tNotT K ta) := by subst e; exact pe_notT ha
end
/-! ### new objects, the heap behind them by a name of its own -/
/-- an object o is laid: what stood stands -/
def New (H : Hp) (o : HO) (Q : VK) : Prop := ∀ (p : Addr) (H' : Hp), Same H H' → H p = none → H' p = some o → Q (.ref p) H'
theorem New.at {H : Hp} {o : HO} {Q : VK} (n : New H o Q) : ∀ p, H p = none → Q (.ref p) (upd H p o) := fun p np => n p _ (same_new (Same.refl _) np) np upd_same
def tLstA (t : TA) : TE := fun σ H Q => t σ H fun xs H1 => xs.length ≤ sizeLine ∧ New H1 (.lst xs) Q
def tTupA (t : TA) : TE := fun σ H Q => t σ H fun xs H1 => xs.length ≤ sizeLine ∧ New H1 (.tup xs) Q
section
variable {X : Cx} {es : List Expr} {t : TA} {pos : Pos}
theorem p_lst (h : PA X es t) : PE X (.List es pos) (tLstA t) := by
  refine ⟨fun pins s σ H Q I hq => wpAny_List_spliced (thn (h.run pos pins s σ H _ I hq) fun us s1 hh => ?_)⟩
  obtain ⟨xs, H1, I1, r, z, q⟩ := hh
  refine ⟨by rw [← r.length]; exact z, .ref s1.heap.objs.size, _, I1.lnew (t' := s1.toks) r z, rfl, q.at _ I1.fresh⟩
theorem p_tup {x1} (h : PA X es t) : PE X (.Tuple es x1 pos) (tTupA t) := by
  refine ⟨fun pins s σ H Q I hq => wpAny_Tuple_spliced (thn (h.run pos pins s σ H _ I hq) fun us s1 hh => ?_)⟩
  obtain ⟨xs, H1, I1, r, z, q⟩ := hh
  refine ⟨by rw [← r.length]; exact z, .ref s1.heap.objs.size, _, I1.laid (t' := s1.toks) (o := .tup xs) (fun b u e => Heap.get?_push_of_some _ e) (Nat.le_refl _) ?_, rfl, q.at _ I1.fresh⟩
  exact ⟨z, us, r, ⟨_, Heap.get?_push_size _ rfl, rfl, _, rfl⟩⟩
def rCatA (K : Frag) : R2 := fun x y H Q => ∃ l b xs zs, x = .ref l ∧ y = .ref b ∧ SqL K H l xs ∧ SqL K H b zs ∧ xs.length + zs.length ≤ sizeLine ∧ New H (.lst (xs ++ zs)) Q
theorem o_catA (K : Frag) (e : X.K = K := by rfl) : OpR X (binaryOp .Add) (rCatA K) := by
  subst e
  intro pins s σ H x y v u Q I rx ry h
  obtain ⟨l, b, xs, zs, h1, h2, h3, h4, h5, q⟩ := h
  exact op_catL pins s σ H x y v u Q I rx ry ⟨l, b, xs, zs, h1, h2, h3, h4, h5, q.at⟩
def rSlA (K : Frag) : V → Option Int → Option Int → Hp → VK → Prop := fun x lo hi H Q => ∃ a xs, x = .ref a ∧ SqL K H a xs ∧ New H (.lst (cutV xs lo hi)) Q
theorem s_listA (K : Frag) (e : X.K = K := by rfl) : SlR X (rSlA K) := by
  subst e
  intro pins s σ H x v vl vu lo hi sl Q I rx hs pl pu h
  obtain ⟨a, xs, h1, h2, q⟩ := h
  exact sl_list pins s σ H x v vl vu lo hi sl Q I rx hs pl pu ⟨a, xs, h1, h2, q.at⟩
def rSplitA : V → List V → Hp → VK → Prop := fun x xs H Q => ∃ a b : Str, x = .str a ∧ xs = [.str b] ∧ (b.length == 0) = false ∧ a.length + 2 ≤ sizeLine ∧ New H (.lst ((Txt.split a b).map V.str)) Q
theorem m_split : MtR X "str.split" rSplitA := by
  intro pins s σ H x xs v us Q I rx rxs h
  obtain ⟨a, b, h1, h2, h3, h4, q⟩ := h
  exact mt_split pins s σ H x xs v us Q I rx rxs ⟨a, b, h1, h2, h3, h4, q.at⟩
def rPartA : V → List V → Hp → VK → Prop := fun x xs H Q => ∃ a b : Str, x = .str a ∧ xs = [.str b] ∧ (b.length == 0) = false ∧ a.length ≤ sizeLine ∧ New H (.tup [.str (Txt.partition a b).1, .str (Txt.partition a b).2.1, .str (Txt.partition a b).2.2]) Q
theorem m_partition : MtR X "str.partition" rPartA := by
  intro pins s σ H x xs v us Q I rx rxs h
  obtain ⟨a, b, h1, h2, h3, h4, q⟩ := h
  exact mt_partition pins s σ H x xs v us Q I rx rxs ⟨a, b, h1, h2, h3, h4, q.at⟩
def rRepA : R2 := fun x y H Q => ∃ l k xs, x = .ref l ∧ y = .int k ∧ H l = some (.lst xs) ∧ -(2 ^ 63) ≤ k ∧ k < 2 ^ 63 ∧ xs.length * k.toNat ≤ sizeLine ∧ New H (.lst (List.replicate k.toNat xs).flatten) Q
theorem o_repA : OpR X (binaryOp .Mult) rRepA := by
  intro pins s σ H x y v u Q I rx ry h
  obtain ⟨l, k, xs, h1, h2, h3, h4, h5, h6, q⟩ := h
  exact op_rep pins s σ H x y v u Q I rx ry ⟨l, k, xs, h1, h2, h3, h4, h5, h6, q.at⟩
end
theorem fa_app {α : Type} {P : α → Prop} {xs ys : List α} (h : ∀ v ∈ xs, P v) (t : ∀ v ∈ ys, P v) : ∀ v ∈ xs ++ ys, P v := fun v hv => (List.mem_append.mp hv).elim (h v) (t v)
theorem fa_map {α β : Type} {P : β → Prop} {f : α → β} {xs : List α} (h : ∀ c ∈ xs, P (f c)) : ∀ v ∈ xs.map f, P v := fun v hv => by
  obtain ⟨c, hc, rfl⟩ := List.mem_map.mp hv
  exact h c hc
/-! ### a test whose answer is known -/
theorem itT {c : Bool} {A B : Prop} (h : c = true) (a : A) : if c = true then A else B := by rw [if_pos h]; exact a
theorem itF {c : Bool} {A B : Prop} (h : c = false) (b : B) : if c = true then A else B := by rw [h, if_neg Bool.false_ne_true]; exact b
theorem q_eq {Q : VK} {v w : V} {H : Hp} (h : Q v H) (e : v = w) : Q w H := e ▸ h
/-! ### a for over a text's signs -/
theorem for_str {z : Str} {g : TG} {tb : TS} {D : Ends} {σ : L2.St} {H : Hp} (Pv : Nat → L2.St → Hp → Prop) (h0 : Pv 0 σ H)
    (hs : ∀ i c σ H, (tl z)[i]? = some c → Pv i σ H → g (sgn c) σ H fun σ2 H2 => tb { D with nx := Pv (i + 1), ct := Pv (i + 1), bk := D.nx } σ2 H2) (hd : ∀ σ H, Pv (tl z).length σ H → D.nx σ H) :
    ∃ W : Nat → Nat → L2.St → Hp → Prop, (∃ m, W 0 m σ H) ∧ ∀ i m σ H, W i m σ H →
      ((Its z).stop i H ∧ D.nx σ H) ∨ ((Its z).go i H ∧ ∃ N : L2.St → Hp → Prop, (∀ σ' H', N σ' H' → ∃ m', m' < m ∧ W (i + 1) m' σ' H') ∧ ∀ x H', (Its z).yld i H x H' → g x σ H' fun σ2 H2 => tb { D with nx := N, ct := N, bk := D.nx } σ2 H2) := by
  refine for_it walk_str Pv h0 (fun _ _ _ _ _ => trivial) (fun i x σ H H' hi p y => ?_) (fun σ H p => hd σ H (by rw [← size_tl]; exact p))
  obtain ⟨rfl, c, hc, rfl⟩ := ystr i H x H' y
  exact hs i c σ _ hc p
theorem fold_take {α β : Type} {f : β → α → β} {b : β} {xs : List α} {i : Nat} {c : α} (h : xs[i]? = some c) : (xs.take (i + 1)).foldl f b = f ((xs.take i).foldl f b) c := by
  rw [take_succ' h, List.foldl_append]; rfl
/-- a comprehension over a range: the turn's number -/
theorem lc_mpr {J : It} {G : Hp → Prop} {Y : Nat → Hp → V → Hp → Prop} (n : Nat) (it : Nat → V) (f : Nat → V) (w : Walk J n G Y) (hz : n < sizeLine) {g : TG} {te : TE} {vs : List Nat} {σ : L2.St} {H1 : Hp} {D : Addr} {Qd : Hp → Prop}
    (hY : ∀ i H x H', Y i H x H' → H' = H ∧ x = it i) (hD : H1 D = none) (hG : ∀ H', Same H1 H' → G H')
    (hs : ∀ i, i < n → ∀ H, Same H1 H → ∀ (Qe : V → Hp → Prop), (∀ H', Same H H' → Qe (f i) H') →
      g (it i) (wipe σ vs) H fun σ2 H2 => wipe σ2 vs = wipe σ vs ∧ te σ2 H2 Qe)
    (hd : ∀ H', Same H1 H' → H' D = some (.lst ((List.range n).map f)) → Qd H') :
    ∃ W : Nat → Nat → Hp → Prop, (∃ m, W 0 m (upd H1 D (.lst []))) ∧ ∀ i m H, W i m H →
      (J.stop i H ∧ Qd H) ∨ (J.go i H ∧ ∃ Nx : Hp → Prop, (∀ H', Nx H' → ∃ m', m' < m ∧ W (i + 1) m' H') ∧ ∀ x H', J.yld i H x H' → g x (wipe σ vs) H' fun σ2 H2 => wipe σ2 vs = wipe σ vs ∧ tYes σ2 H2 fun b H3 =>
        if b = true then te σ2 H3 fun y H4 => ∃ acc, H4 D = some (.lst acc) ∧ acc.length < sizeLine ∧ Nx (upd H4 D (.lst (acc ++ [y]))) else Nx H3) := by
  refine lc_mp (List.range n) it f (w.mono (G' := G) (Y' := fun i H x H' => H' = H ∧ i < n ∧ x = it i) (fun _ h => h) (fun i H x H' hi _ y => ⟨(hY i H x H' y).1, hi, (hY i H x H' y).2⟩)) (List.length_range ..).symm (by rw [List.length_range]; exact hz)
    (fun i H x H' y => ⟨y.1, i, by rw [List.getElem?_range y.2.1], y.2.2⟩) hD hG (fun i hi => hs i (List.mem_range.mp hi)) hd
end An
namespace An
open PySem PySem.W PySem.Spec PyProof.Rows L2 TL Bits
/-! ### a source of draws: a list of three ints, whichever; a draw leaves the abstract heap as it is -/
def srcP (a : Addr) : Heap → Prop := fun h => ∃ (x y z : Int) (t u v : Tok) (n : Nat), h.get? a = some { cls := .type "list", data := .seq [Value.int x t, .int y u, .int z v].toArray n }
def Src (H : Hp) (a : Addr) : Prop := H a = some (.ext (srcP a))
theorem Src.same {H H' : Hp} {a : Addr} (h : Src H a) (e : Same H H') : Src H' a := e _ _ h
theorem srcP_keep (a : Addr) : ∀ h1 h2 : Heap, srcP a h1 → (∀ o, h1.get? a = some o → h2.get? a = some o) → srcP a h2 := fun h1 h2 ⟨x, y, z, t, u, v, n, e⟩ k => ⟨x, y, z, t, u, v, n, k _ e⟩
def tLstS (t : TA) : TE := fun σ H Q => t σ H fun xs H1 => ∃ x y z : Int, xs = [.int x, .int y, .int z] ∧ ∀ (p : Addr) (H' : Hp), Same H1 H' → H1 p = none → Src H' p → Q (.ref p) H'
section
variable {X : Cx} {es : List Expr} {t : TA} {pos : Pos}
theorem p_lstS (h : PA X es t) : PE X (.List es pos) (tLstS t) := by
  refine ⟨fun pins s σ H Q I hq => wpAny_List_spliced (thn (h.run pos pins s σ H _ I hq) fun us s1 hh => ?_)⟩
  obtain ⟨xs, H1, I1, r, x, y, z, rfl, q⟩ := hh
  have hlen := r.length
  obtain ⟨u1, u2, u3, rfl⟩ : ∃ u1 u2 u3, us = [u1, u2, u3] := by
    match us, hlen with
    | [a, b, c], _ => exact ⟨a, b, c, rfl⟩
  have e1 := r.get (i := 0) (x := .int x) rfl
  have e2 := r.get (i := 1) (x := .int y) rfl
  have e3 := r.get (i := 2) (x := .int z) rfl
  obtain ⟨w1, h1, t1, rfl⟩ := e1
  obtain ⟨w2, h2, t2, rfl⟩ := e2
  obtain ⟨w3, h3, t3, rfl⟩ := e3
  cases (Option.some.inj h1)
  cases (Option.some.inj h2)
  cases (Option.some.inj h3)
  refine ⟨by show 3 ≤ sizeLine; decide, .ref s1.heap.objs.size, _, I1.laid (t' := s1.toks) (a := s1.heap.objs.size) (o := .ext (srcP s1.heap.objs.size)) (fun b u e => Heap.get?_push_of_some _ e) (Nat.le_refl _) ?_, rfl, q _ _ (same_new (Same.refl _) I1.fresh) I1.fresh upd_same⟩
  exact ⟨⟨x, y, z, t1, t2, t3, _, Heap.get?_push_size _ rfl⟩, ⟨_, Heap.get?_push_size _ rfl⟩, srcP_keep _⟩
/-! ### src[i] : some int -/
def rIxSrc : R2 := fun x y H Q => ∃ (p : Addr) (i : Int), x = .ref p ∧ y = .int i ∧ Src H p ∧ (0 ≤ i ∧ i < 3) ∧ ∀ k : Int, Q (.int k) H
theorem x_src : IxR X rIxSrc := by
  intro value slice pins s σ H x y v u Q I rx ry h hs
  obtain ⟨p, i, rfl, rfl, hS, ⟨i0, i3⟩, q⟩ := h
  cases rx
  obtain ⟨t, rfl⟩ := ry
  obtain ⟨⟨x, y, z, t1, t2, t3, n, ho⟩, _, _⟩ := I.hok p _ hS
  have pl : PlainL s.heap p [Value.int x t1, .int y t2, .int z t3].toArray := ⟨_, n, ho, rfl, rfl, rfl⟩
  obtain ⟨k, t4, hk⟩ : ∃ (k : Int) (t4 : Tok), [Value.int x t1, .int y t2, .int z t3][i.toNat]? = some (Value.int k t4) := by
    have : i = 0 ∨ i = 1 ∨ i = 2 := by omega
    rcases this with rfl | rfl | rfl
    · exact ⟨_, _, rfl⟩
    · exact ⟨_, _, rfl⟩
    · exact ⟨_, _, rfl⟩
  have fin : EP X pins σ Q (Value.int k t4) s := ⟨.int k, H, I, ⟨_, rfl⟩, q k⟩
  exact item_listR pl.isList i0 (by omega) (by simpa using hk) fin hs
/-! ### src[i] = an int -/
def rSetSrc : V → V → V → Hp → (Hp → Prop) → Prop := fun o i v H Q => ∃ (p : Addr) (k j : Int), o = .ref p ∧ i = .int k ∧ v = .int j ∧ Src H p ∧ (0 ≤ k ∧ k < 3) ∧ Q H
theorem set_src : PSet X rSetSrc := by
  intro pins s σ H o i v ov iv u Q I ro ri rv h
  obtain ⟨p, k, j, rfl, rfl, rfl, hS, ⟨k0, k3⟩, q⟩ := h
  cases ro
  obtain ⟨t, rfl⟩ := ri
  obtain ⟨t', rfl⟩ := rv
  obtain ⟨⟨x, y, z, t1, t2, t3, n, ho⟩, _, _⟩ := I.hok p _ hS
  have hf : ∃ (x' y' z' : Int) (u1 u2 u3 : Tok), [Value.int x t1, .int y t2, .int z t3].set k.toNat (Value.int j t') = [Value.int x' u1, .int y' u2, .int z' u3] := by
    have : k = 0 ∨ k = 1 ∨ k = 2 := by omega
    rcases this with rfl | rfl | rfl
    · exact ⟨_, _, _, _, _, _, rfl⟩
    · exact ⟨_, _, _, _, _, _, rfl⟩
    · exact ⟨_, _, _, _, _, _, rfl⟩
  obtain ⟨x', y', z', u1, u2, u3, hf⟩ := hf
  have hm := mapSeq_set [Value.int x t1, .int y t2, .int z t3] n k.toNat (Value.int j t')
  rw [hf] at hm
  have e : (s.heap.update p (Obj.mapSeq (·.setIfInBounds k.toNat (Value.int j t')))).get? p = some { cls := .type "list", data := .seq [Value.int x' u1, .int y' u2, .int z' u3].toArray n } := by
    rw [Heap.get?_update_self _ ho (by rw [hm] <;> rfl), hm]
  have I' : Inv X pins σ (upd H p (.ext (srcP p))) { s with heap := s.heap.update p (Obj.mapSeq (·.setIfInBounds k.toNat (Value.int j t'))), toks := s.toks } := by
    refine I.write (x := p) (e := p) (by rw [hS]; trivial) (.inl rfl) (fun b u hb q => (Heap.get?_update_other _ _ (Ne.symm hb)).trans q) ⟨_, e⟩ ?_
    exact ⟨⟨x', y', z', u1, u2, u3, n, e⟩, ⟨_, e⟩, srcP_keep _⟩
  have hH : upd H p (.ext (srcP p)) = H := by
    funext b
    unfold upd
    split
    · rename_i hb; rw [hb]; exact hS.symm
    · rfl
  rw [hH] at I'
  exact PySem.W.ki_setAt ho k0 (by omega) (by show k < 3; exact k3) ⟨_, I', q⟩
end
end An
namespace An
open PySem PySem.W PySem.Spec PyProof.Rows L2 TL Bits
theorem _root_.L2.Same.seqT {K : Frag} {H H' : Hp} {a : Addr} {xs : List V} (e : Same H H') (h : SqT K H a xs) : SqT K H' a xs := by
  rcases h with (h | ⟨o, h⟩) | h
  · exact .inl (.inl (e _ _ h))
  · exact .inl (.inr ⟨o, e _ _ h⟩)
  · exact .inr h
/-! ### what is no list stays -/
def Sml (H H' : Hp) : Prop := ∀ b o, H b = some o → (∀ xs, o ≠ .lst xs) → H' b = some o
theorem Sml.refl (H : Hp) : Sml H H := fun _ _ h _ => h
theorem Sml.trans {H H1 H2 : Hp} (a : Sml H H1) (b : Sml H1 H2) : Sml H H2 := fun c o h n => b c o (a c o h n) n
theorem Same.sml {H H1 : Hp} (a : Same H H1) : Sml H H1 := fun c o h _ => a c o h
theorem Src.sml {H H' : Hp} {a : Addr} (h : Src H a) (e : Sml H H') : Src H' a := e _ _ h (fun _ z => by cases z)
def rAppendA : V → List V → Hp → VK → Prop := fun x vs H Q => ∃ l xs y, x = .ref l ∧ vs = [y] ∧ H l = some (.lst xs) ∧ xs.length < sizeLine ∧ ∀ H', But l H H' → Sml H H' → H' l = some (.lst (xs ++ [y])) → Q .non H'
section
variable {X : Cx}
theorem mt_appendA : MtM X "list.append" rAppendA := by
  intro pins s σ H x vs v us Q I rx rv h
  obtain ⟨l, xs, y, h1, h2, h3, h4, q⟩ := h
  exact mt_append pins s σ H x vs v us Q I rx rv ⟨l, xs, y, h1, h2, h3, h4, q _ (But.refl l H).upd (fun c o hc no => by rw [upd_ne (ne_of hc h3 (no xs))]; exact hc) upd_same⟩
end
theorem pickQ {K : Frag} {H : Hp} {p : Addr} {xs : List V} {P : V → Prop} {r : Int} (_ : SqL K H p xs) (h0 : 0 ≤ r) (h1 : r < xs.length) (h : ∀ v ∈ xs, P v) : ∃ v, atI xs r = some v ∧ P v := pick h0 h1 h
/-! ### loops, what changes said by the slots and the heap at their begin -/
section
variable {g : TG} {tb : TS} {D : Ends} {σ : L2.St} {H : Hp} {K : Frag}
theorem for_rangeS {lo : Int} {n : Nat} (Pv : L2.St → Hp → Nat → L2.St → Hp → Prop) (h0 : Pv σ H 0 σ H)
    (hs : ∀ i σ' H', i < n → Pv σ H i σ' H' → g (.int (lo + i)) σ' H' fun σ2 H2 => tb { D with nx := Pv σ H (i + 1), ct := Pv σ H (i + 1), bk := D.nx } σ2 H2) (hd : ∀ σ' H', Pv σ H n σ' H' → D.nx σ' H') :
    ∃ W : Nat → Nat → L2.St → Hp → Prop, (∃ m, W 0 m σ H) ∧ ∀ i m σ H, W i m σ H →
      ((Itr lo n).stop i H ∧ D.nx σ H) ∨ ((Itr lo n).go i H ∧ ∃ N : L2.St → Hp → Prop, (∀ σ' H', N σ' H' → ∃ m', m' < m ∧ W (i + 1) m' σ' H') ∧ ∀ x H', (Itr lo n).yld i H x H' → g x σ H' fun σ2 H2 => tb { D with nx := N, ct := N, bk := D.nx } σ2 H2) :=
  for_range (Pv σ H) h0 hs hd
theorem for_listS {a : Addr} {xs : List V} (_ : SqL K H a xs) (Pv : L2.St → Hp → Nat → L2.St → Hp → Prop) (hl : ∀ i σ' H', Pv σ H i σ' H' → SqL K H' a xs) (h0 : Pv σ H 0 σ H)
    (hs : ∀ i x σ' H', xs[i]? = some x → Pv σ H i σ' H' → g x σ' H' fun σ2 H2 => tb { D with nx := Pv σ H (i + 1), ct := Pv σ H (i + 1), bk := D.nx } σ2 H2) (hd : ∀ σ' H', Pv σ H xs.length σ' H' → D.nx σ' H') :
    ∃ W : Nat → Nat → L2.St → Hp → Prop, (∃ m, W 0 m σ H) ∧ ∀ i m σ H, W i m σ H →
      ((Itl K a).stop i H ∧ D.nx σ H) ∨ ((Itl K a).go i H ∧ ∃ N : L2.St → Hp → Prop, (∀ σ' H', N σ' H' → ∃ m', m' < m ∧ W (i + 1) m' σ' H') ∧ ∀ x H', (Itl K a).yld i H x H' → g x σ H' fun σ2 H2 => tb { D with nx := N, ct := N, bk := D.nx } σ2 H2) :=
  for_list (Pv σ H) h0 (fun i σ' H' _ p => hl i σ' H' p) hs hd
theorem for_enumS {a : Addr} {xs : List V} (_ : SqL K H a xs) (Pv : L2.St → Hp → Nat → L2.St → Hp → Prop) (hl : ∀ i σ' H', Pv σ H i σ' H' → SqL K H' a xs) (h0 : Pv σ H 0 σ H)
    (hs : ∀ i x σ' H', xs[i]? = some x → Pv σ H i σ' H' → ∀ (t : Addr) (H2 : Hp), Same H' H2 → H' t = none → H2 t = some (.tup [.int (i : Nat), x]) → g (.ref t) σ' H2 fun σ2 H2 => tb { D with nx := Pv σ H (i + 1), ct := Pv σ H (i + 1), bk := D.nx } σ2 H2) (hd : ∀ σ' H', Pv σ H xs.length σ' H' → D.nx σ' H') :
    ∃ W : Nat → Nat → L2.St → Hp → Prop, (∃ m, W 0 m σ H) ∧ ∀ i m σ H, W i m σ H →
      ((Ite K a).stop i H ∧ D.nx σ H) ∨ ((Ite K a).go i H ∧ ∃ N : L2.St → Hp → Prop, (∀ σ' H', N σ' H' → ∃ m', m' < m ∧ W (i + 1) m' σ' H') ∧ ∀ x H', (Ite K a).yld i H x H' → g x σ H' fun σ2 H2 => tb { D with nx := N, ct := N, bk := D.nx } σ2 H2) := by
  refine for_it walk_enum (Pv σ H) h0 (fun i σ' H' _ p => hl i σ' H' p) ?_ hd
  rintro i x σ' H' H2 hi p ⟨t, u, y, rfl, nt, rfl, e1, e2⟩
  cases e1
  exact hs i y σ' H' e2 p t _ (same_new (Same.refl _) nt) nt upd_same
theorem for_zipS {a b : Addr} {xs ys : List V} (_ : SqL K H a xs ∧ SqL K H b ys) (Pv : L2.St → Hp → Nat → L2.St → Hp → Prop) (hl : ∀ i σ' H', Pv σ H i σ' H' → SqL K H' a xs ∧ SqL K H' b ys) (h0 : Pv σ H 0 σ H)
    (hs : ∀ i x y σ' H', xs[i]? = some x ∧ ys[i]? = some y → Pv σ H i σ' H' → ∀ (t : Addr) (H2 : Hp), Same H' H2 → H' t = none → H2 t = some (.tup [x, y]) → g (.ref t) σ' H2 fun σ2 H2 => tb { D with nx := Pv σ H (i + 1), ct := Pv σ H (i + 1), bk := D.nx } σ2 H2) (hd : ∀ σ' H', Pv σ H (min xs.length ys.length) σ' H' → D.nx σ' H') :
    ∃ W : Nat → Nat → L2.St → Hp → Prop, (∃ m, W 0 m σ H) ∧ ∀ i m σ H, W i m σ H →
      ((Itz K a b).stop i H ∧ D.nx σ H) ∨ ((Itz K a b).go i H ∧ ∃ N : L2.St → Hp → Prop, (∀ σ' H', N σ' H' → ∃ m', m' < m ∧ W (i + 1) m' σ' H') ∧ ∀ x H', (Itz K a b).yld i H x H' → g x σ H' fun σ2 H2 => tb { D with nx := N, ct := N, bk := D.nx } σ2 H2) := by
  refine for_it (walk_zip rfl) (Pv σ H) h0 (fun i σ' H' _ p => hl i σ' H' p) ?_ hd
  rintro i x σ' H' H2 hi p ⟨t, u, y, rfl, nt, rfl, e1, e2⟩
  exact hs i u y σ' H' ⟨e1, e2⟩ p t _ (same_new (Same.refl _) nt) nt upd_same
theorem for_strS {z : Str} (Pv : L2.St → Hp → Nat → L2.St → Hp → Prop) (h0 : Pv σ H 0 σ H)
    (hs : ∀ i c σ' H', (tl z)[i]? = some c → Pv σ H i σ' H' → g (sgn c) σ' H' fun σ2 H2 => tb { D with nx := Pv σ H (i + 1), ct := Pv σ H (i + 1), bk := D.nx } σ2 H2) (hd : ∀ σ' H', Pv σ H (tl z).length σ' H' → D.nx σ' H') :
    ∃ W : Nat → Nat → L2.St → Hp → Prop, (∃ m, W 0 m σ H) ∧ ∀ i m σ H, W i m σ H →
      ((Its z).stop i H ∧ D.nx σ H) ∨ ((Its z).go i H ∧ ∃ N : L2.St → Hp → Prop, (∀ σ' H', N σ' H' → ∃ m', m' < m ∧ W (i + 1) m' σ' H') ∧ ∀ x H', (Its z).yld i H x H' → g x σ H' fun σ2 H2 => tb { D with nx := N, ct := N, bk := D.nx } σ2 H2) :=
  for_str (Pv σ H) h0 hs hd
end
theorem lst_eq {H : Hp} {p : Addr} {xs ys : List V} (h : H p = some (.lst xs)) (e : xs = ys) : H p = some (.lst ys) := e ▸ h
theorem tup_eq {H : Hp} {p : Addr} {xs ys : List V} (h : H p = some (.tup xs)) (e : xs = ys) : H p = some (.tup ys) := e ▸ h
theorem each_at {P : V → Prop} {xs : List V} {i : Nat} {x : V} (h : ∀ v ∈ xs, P v) (hi : xs[i]? = some x) : P x := h x (List.mem_of_getElem? hi)
theorem neF {x y : V} (h : x = y) : (!decide (x = y)) = false := by rw [decide_eq_true h]; rfl
theorem eqT {x y : V} (h : x = y) : decide (x = y) = true := decide_eq_true h
theorem strF {x y : Str} (h : x = y) : (!decide (V.str x = V.str y)) = false := neF (congrArg V.str h)
theorem strT {x y : Str} (h : x = y) : decide (V.str x = V.str y) = true := eqT (congrArg V.str h)
theorem intF {x y : Int} (h : x = y) : (!decide (V.int x = V.int y)) = false := neF (congrArg V.int h)
theorem intT {x y : Int} (h : x = y) : decide (V.int x = V.int y) = true := eqT (congrArg V.int h)
theorem intNT {x y : Int} (h : x ≠ y) : (!decide (V.int x = V.int y)) = true := by rw [decide_eq_false (fun e => h (by injection e))]; rfl
theorem intNF {x y : Int} (h : x ≠ y) : decide (V.int x = V.int y) = false := decide_eq_false (fun e => h (by injection e))
theorem sizeL' {n : Nat} (h : n ≤ 100000) : n ≤ sizeLine := Nat.le_trans h (by decide)
theorem sizeLt' {n : Nat} (h : n < 100000) : n < sizeLine := Nat.lt_of_lt_of_le h (by decide)
/-! ### == and != of data: alike -/
theorem neD_same {K : Frag} {H : Hp} {x y : V} {Q : VK} {d : PyData} (h1 : Dp K H x d) (h2 : Dp K H y d) (sh : SeqAt.shaped d = true) (q : Q (.bl false) H) : rNeD K x y H Q := by
  refine ⟨d, d, h1, h2, sh, sh, ?_⟩
  rw [SeqAt.eqv_refl _ (SeqAt.canLay_of_shaped sh)]
  exact q
theorem eqD_same {K : Frag} {H : Hp} {x y : V} {Q : VK} {d : PyData} (h1 : Dp K H x d) (h2 : Dp K H y d) (sh : SeqAt.shaped d = true) (q : Q (.bl true) H) : rEqD K x y H Q := by
  refine ⟨d, d, h1, h2, sh, sh, ?_⟩
  rw [SeqAt.eqv_refl _ (SeqAt.canLay_of_shaped sh)]
  exact q
/-- a value that is plain, as data -/
def pyV : V → PyData
  | .bl b => .bool b
  | .int i => .int i
  | .str x => .str x
  | _ => .none
/-- plain: None, a bool, an int, a text -/
def Pln : V → Prop
  | .non => True
  | .bl _ => True
  | .int _ => True
  | .str x => PyData.strOk x = true
  | _ => False
theorem pln_dp {K : Frag} {H : Hp} : ∀ {v : V}, Pln v → Dp K H v (pyV v)
  | .non, _ => .non
  | .bl b, _ => .bl b
  | .int i, _ => .int i
  | .str x, _ => .str x
  | .byt _, h => h.elim
  | .flt _, h => h.elim
  | .ref _, h => h.elim
  | .ty _, h => h.elim
theorem pln_lay : ∀ {v : V}, Pln v → PyData.canLay0 (pyV v) = true ∧ PyData.depth (pyV v) = 0
  | .non, _ => by simp [pyV, PyData.canLay0, PyData.depth]
  | .bl b, _ => by simp [pyV, PyData.canLay0, PyData.depth]
  | .int i, _ => by simp [pyV, PyData.canLay0, PyData.depth]
  | .str x, h => by simp [pyV, PyData.canLay0, PyData.depth]; exact h
  | .byt _, h => h.elim
  | .flt _, h => h.elim
  | .ref _, h => h.elim
  | .ty _, h => h.elim
theorem pln_all {K : Frag} {H : Hp} : ∀ {vs : List V}, (∀ v ∈ vs, Pln v) → DpAll K H vs (vs.map pyV)
  | [], _ => .nil
  | v :: r, h => .cons (pln_dp (h v (List.mem_cons_self ..))) (pln_all fun w hw => h w (List.mem_cons_of_mem _ hw))
theorem pln_lays : ∀ {vs : List V}, (∀ v ∈ vs, Pln v) → PyData.canLayAll0 (vs.map pyV) = true ∧ PyData.depthAll (vs.map pyV) = 0
  | [], _ => ⟨by simp [PyData.canLayAll0], by simp [PyData.depthAll]⟩
  | v :: r, h => by
    obtain ⟨h1, h2⟩ := pln_lays fun w hw => h w (List.mem_cons_of_mem (a := w) v hw)
    obtain ⟨h3, h4⟩ := pln_lay (h v (List.mem_cons_self ..))
    exact ⟨by simp [PyData.canLayAll0, h1, h3], by simp [PyData.depthAll, h2, h4]⟩
theorem ne_lst {K : Frag} {H : Hp} {p q : Addr} {xs ys : List V} {Q : VK} (h1 : SqL K H p xs) (h2 : SqL K H q ys) (e : ys = xs) (ok : ∀ v ∈ xs, Pln v) (k : Q (.bl false) H) : rNeD K (.ref p) (.ref q) H Q := by
  subst e
  obtain ⟨a, b⟩ := pln_lays ok
  exact neD_same (.lst h1 (pln_all ok)) (.lst h2 (pln_all ok)) (by unfold SeqAt.shaped; simp [PyData.canLay0, a, PyData.depth, b]) k
theorem eq_lst {K : Frag} {H : Hp} {p q : Addr} {xs ys : List V} {Q : VK} (h1 : SqL K H p xs) (h2 : SqL K H q ys) (e : ys = xs) (ok : ∀ v ∈ xs, Pln v) (k : Q (.bl true) H) : rEqD K (.ref p) (.ref q) H Q := by
  subst e
  obtain ⟨a, b⟩ := pln_lays ok
  exact eqD_same (.lst h1 (pln_all ok)) (.lst h2 (pln_all ok)) (by unfold SeqAt.shaped; simp [PyData.canLay0, a, PyData.depth, b]) k
theorem ne_tup {K : Frag} {H : Hp} {p q : Addr} {xs ys : List V} {Q : VK} (h1 : SqT K H p xs) (h2 : SqT K H q ys) (e : ys = xs) (ok : ∀ v ∈ xs, Pln v) (k : Q (.bl false) H) : rNeD K (.ref p) (.ref q) H Q := by
  subst e
  obtain ⟨a, b⟩ := pln_lays ok
  exact neD_same (.tup h1 (pln_all ok)) (.tup h2 (pln_all ok)) (by unfold SeqAt.shaped; simp [PyData.canLay0, a, PyData.depth, b]) k
theorem eq_tup {K : Frag} {H : Hp} {p q : Addr} {xs ys : List V} {Q : VK} (h1 : SqT K H p xs) (h2 : SqT K H q ys) (e : ys = xs) (ok : ∀ v ∈ xs, Pln v) (k : Q (.bl true) H) : rEqD K (.ref p) (.ref q) H Q := by
  subst e
  obtain ⟨a, b⟩ := pln_lays ok
  exact eqD_same (.tup h1 (pln_all ok)) (.tup h2 (pln_all ok)) (by unfold SeqAt.shaped; simp [PyData.canLay0, a, PyData.depth, b]) k
end An
namespace An
open PySem PySem.W PySem.Spec PyProof.Rows L2 TL Bits
/-! ### text[::-1] -/
def revS (z : Str) : Str := ⟨z.cps.toList.reverse.toArray⟩
theorem revS_tl (z : Str) : tl (revS z) = (tl z).reverse := rfl
theorem revS_len (z : Str) : (revS z).length = z.length := by rw [len_tl, len_tl, revS_tl, List.length_reverse]
theorem sign_range (n : Nat) : (List.range n).map (fun k => n - 1 - k) = (List.range n).reverse := by
  apply List.ext_getElem
  · simp
  · intro i h1 h2
    simp at h1 h2 ⊢
theorem sign_all (z : Str) : (List.range z.length).filterMap (z.cps[·]?) = z.cps.toList := by
  have key : ∀ l : List Nat, (List.range l.length).filterMap (l[·]?) = l := fun l => by
    induction l with
    | nil => rfl
    | cons a r ih =>
      rw [List.length_cons, List.range_succ_eq_map, List.filterMap_cons]
      simp only [List.getElem?_cons_zero, List.filterMap_map]
      congr 1
  have := key z.cps.toList
  rw [Array.length_toList] at this
  have e : (fun i : Nat => z.cps.toList[i]?) = fun i : Nat => z.cps[i]? := funext fun i => Array.getElem?_toList
  rw [e] at this
  exact this
theorem sign_pick (z : Str) : ⟨((Builtin.Str.strSliceIndices none none (-1) z.length).filterMap (z.cps[·]?)).toArray⟩ = revS z := by
  unfold revS
  congr 2
  show ((sliceRange ((z.length : Int) - 1) (-1) (-1)).filterMap (z.cps[·]?)) = _
  rw [krv_sliceRange, sign_range, List.filterMap_reverse, sign_all]
def tRevS (te : TE) : TE := fun σ H Q => te σ H fun x H1 => ∃ z, x = .str z ∧ z.length ≤ sizeLine ∧ Q (.str (revS z)) H1
section
variable {X : Cx}
theorem p_revS {e : Expr} {te : TE} {k : Nat} {p1 p2 p3 pos : Pos} (he : PE X e te) : PE X (.Subscript e (.Slice none none (some (.UnaryOp .USub (.Constant (.int 1) k p1) p2)) p3) pos) (tRevS te) := by
  refine ⟨fun pins s σ H Q I h => ?_⟩
  refine Subscript_ (thn (he.run pins s σ H _ I h) fun v s1 ⟨x, H1, I1, r1, q1⟩ => ?_)
  obtain ⟨z, ex, hz, q⟩ := q1
  subst ex
  obtain ⟨t, rfl⟩ := r1
  have hst : PO X (some (.UnaryOp .USub (.Constant (.int 1) k p1) p2)) (tPart (tUn (rU fun i => .int (-i)) (tC (.int 1)))) := po_some (pe_un un_neg pe_int)
  refine wpAny_Slice (thn (po_none.run pins s1 σ H1 (fun o H2 => o = none ∧ H2 = H1) I1 ⟨rfl, rfl⟩) fun vl s2 ⟨l, H2, I2, pl, el, e2⟩ => ?_)
  subst el e2
  refine thn (po_none.run pins s2 σ H2 (fun o H3 => o = none ∧ H3 = H2) I2 ⟨rfl, rfl⟩) fun vu s3 ⟨u, H3, I3, pu, eu, e3⟩ => ?_
  subst eu e3
  refine thn (hst.run pins s3 σ H3 (fun o H4 => o = some (-1) ∧ H4 = H3) I3 ⟨1, rfl, -1, rfl, rfl, rfl⟩) fun vs s4 ⟨o, H4, I4, ps, eo, e4⟩ => ?_
  subst eo e4
  have I5 : Inv X pins σ H4 { s4 with heap := s4.heap.push { cls := .type "slice", data := .fields #[vl, vu, vs] } } := I4.kept (t' := s4.toks) fun b ob q => Heap.get?_push_of_some _ q
  show wpAny (model X.prog X.w) X.A (subscriptTail e (.Slice none none (some (.UnaryOp .USub (.Constant (.int 1) k p1) p2)) p3) (.str z t) (.ref s4.heap.objs.size)) (EP X pins σ Q) X.xe { s4 with heap := s4.heap.push { cls := .type "slice", data := .fields #[vl, vu, vs] } }
  refine tail_any (ops := [.str z t, .ref s4.heap.objs.size]) (typeIs_str _ _ _) F.slot_str_getitem.lookup ?_ (by with_unfolding_all rfl)
  obtain ⟨l, rfl, el⟩ := IsPart.raw pl
  obtain ⟨u, rfl, eu⟩ := IsPart.raw pu
  obtain ⟨st, rfl, es⟩ := IsPart.raw ps
  refine wpAny_getItem_str_slice (l := l) (u := u) (st := st) ⟨_, Heap.get?_push_size _ rfl, rfl, rfl⟩ (by rw [es]; rfl) ?_
  have e1 : sliceMade z t l u st = Made.str (revS z) := by
    unfold sliceMade slicePicked
    rw [el, eu, es]
    simp only [Option.getD_some]
    rw [if_neg (by simp)]
    rw [sign_pick]
  rw [e1]
  exact ⟨by rw [revS_len]; exact hz, .str _, H4, I5.tok _, ⟨_, rfl⟩, q⟩
/-! ### sep.join(text) -/
def rJoinS : V → List V → Hp → VK → Prop := fun x xs H Q => ∃ a y : Str, x = .str a ∧ xs = [.str y] ∧ JoinOk a (PyProof.Rows.signs y) = true ∧ ∀ H', Same H H' → Q (.str (Txt.join a (PyProof.Rows.signs y))) H'
theorem mt_joinS (hc : X.calm = true) : MtR X "str.join" rJoinS := by
  intro pins s σ H x xs v us Q I rx rs h
  obtain ⟨a, y, rfl, rfl, ok, q⟩ := h
  obtain ⟨t, rfl⟩ := rx
  obtain ⟨u, rfl, t', rfl⟩ := rs.one
  exact PySem.SC.joinStr (I.ok.hd hc) ok fun h' k t2 keep => ⟨.str _, H, I.kept (t' := k) keep, ⟨_, rfl⟩, q H (Same.refl _)⟩
/-! ### list(text) -/
def rListS : List V → Hp → VK → Prop := fun xs H Q => ∃ y : Str, xs = [.str y] ∧ y.length ≤ sizeLine ∧ New H (.lst ((tl y).map sgn)) Q
theorem c_listS (hc : X.calm = true) : CallR X (.type "list") rListS := by
  intro pins s σ H xs us Q I rs h
  obtain ⟨y, rfl, hz, q⟩ := h
  obtain ⟨u, rfl, t, rfl⟩ := rs.one
  refine call_list_str (I.ok.hd hc) y t (hn := hz) fun h' tk acc c keep hS hacc => ?_
  have hv : Vals ((tl y).map sgn) acc.toList := by
    have : ∀ (l : List Nat) (as : List Value), as.length = l.length → (∀ j v, as[j]? = some v → ∃ c u, l[j]? = some c ∧ v = Value.str ⟨#[c]⟩ u) → Vals (l.map sgn) as := fun l => by
      induction l with
      | nil =>
        intro as hl _
        cases as with
        | nil => exact .nil
        | cons a b => simp at hl
      | cons c r ih =>
        intro as hl hh
        cases as with
        | nil => simp at hl
        | cons a b =>
          obtain ⟨c', u, e1, rfl⟩ := hh 0 a rfl
          cases (Option.some.inj e1)
          exact .cons ⟨u, rfl⟩ (ih b (by simpa using hl) fun j v hv => hh (j + 1) v hv)
    refine this (tl y) acc.toList ?_ fun j v hv => ?_
    · have := hacc.1
      simp [tl, this]
    · obtain ⟨c, u, hc, rfl⟩ := hacc.2 j v (by simpa using hv)
      exact ⟨c, u, by simpa [tl] using hc, rfl⟩
  have hl : ((tl y).map sgn).length ≤ sizeLine := by rw [List.length_map, ← len_tl]; exact hz
  refine ⟨.ref s.heap.objs.size, _, I.laid (t' := tk) (o := .lst ((tl y).map sgn)) keep (Nat.le_refl _) ⟨hl, acc.toList, c, hv, by simpa using hS⟩, rfl, q.at _ I.fresh⟩
def tRevA (K : Frag) (te : TE) : TE := fun σ H Q => te σ H fun x H1 => ∃ a xs, x = .ref a ∧ SqL K H1 a xs ∧ New H1 (.lst xs.reverse) Q
theorem p_revA (K : Frag) {o : Expr} {te : TE} {k : Nat} {p1 p2 p3 pos : Pos} (he : PE X o te) (e : X.K = K := by rfl) : PE X (.Subscript o (.Slice none none (some (.UnaryOp .USub (.Constant (.int 1) k p1) p2)) p3) pos) (tRevA K te) := by
  subst e
  refine ⟨fun pins s σ H Q I h => ?_⟩
  refine Subscript_ (thn (he.run pins s σ H _ I h) fun v s1 ⟨x, H1, I1, r1, q1⟩ => ?_)
  obtain ⟨a, xs, ex, hx, q⟩ := q1
  subst ex
  cases r1
  have hst : PO X (some (.UnaryOp .USub (.Constant (.int 1) k p1) p2)) (tPart (tUn (rU fun i => .int (-i)) (tC (.int 1)))) := po_some (pe_un un_neg pe_int)
  refine wpAny_Slice (thn (po_none.run pins s1 σ H1 (fun o H2 => o = none ∧ H2 = H1) I1 ⟨rfl, rfl⟩) fun vl s2 ⟨l, H2, I2, pl, el, e2⟩ => ?_)
  subst el e2
  refine thn (po_none.run pins s2 σ H2 (fun o H3 => o = none ∧ H3 = H2) I2 ⟨rfl, rfl⟩) fun vu s3 ⟨u, H3, I3, pu, eu, e3⟩ => ?_
  subst eu e3
  refine thn (hst.run pins s3 σ H3 (fun o H4 => o = some (-1) ∧ H4 = H3) I3 ⟨1, rfl, -1, rfl, rfl, rfl⟩) fun vs s4 ⟨y, H4, I4, ps, eo, e4⟩ => ?_
  subst eo e4
  have I5 : Inv X pins σ H4 { s4 with heap := s4.heap.push { cls := .type "slice", data := .fields #[vl, vu, vs] } } := I4.kept (t' := s4.toks) fun b ob q => Heap.get?_push_of_some _ q
  obtain ⟨its, r, ht, hz⟩ := I5.list hx
  have hlen := r.length
  show wpAny (model X.prog X.w) X.A (subscriptTail o (.Slice none none (some (.UnaryOp .USub (.Constant (.int 1) k p1) p2)) p3) (.ref a) (.ref s4.heap.objs.size)) (EP X pins σ Q) X.xe { s4 with heap := s4.heap.push { cls := .type "slice", data := .fields #[vl, vu, vs] } }
  refine tail_any (ops := [.ref a, .ref s4.heap.objs.size]) ht.isList.typeIs (PySem.slot_list_getitem.lookup) ?_ (by with_unfolding_all rfl)
  refine wpAny_getItem_list_slice ht.isList (Heap.IsSliceOf.new _ vl vu vs) pl pu ps (by decide) ?_ (by rw [List.size_toArray]; omega)
  rw [PySem.W.krv_pick]
  refine ⟨.ref _, _, I5.laid (t' := s4.toks) (o := .lst xs.reverse) (fun b ob q => Heap.get?_push_of_some _ q) (Nat.le_refl _) ?_, rfl, q.at _ (I5.hok.fresh (Nat.le_refl _))⟩
  exact ⟨by rw [List.length_reverse]; exact hz, _, 0, r.reverse, Heap.get?_push_size _ rfl⟩
end
end An
namespace An
open PySem PySem.W PySem.Spec PyProof.Rows L2 TL Bits
theorem cmul_l {i j : Int} (h : -18446744073709551616 < i ∧ i < 18446744073709551616) : CMul i j := Or.inl h
theorem cmul_r {i j : Int} (h : -18446744073709551616 < j ∧ j < 18446744073709551616) : CMul i j := Or.inr h
theorem cdivw {i j : Int} (h : 0 < j) (h2 : j < 2 ^ 200) : CDivW i j := by
  refine wide_div h (b := 200) ?_ (by decide) (by decide)
  have e : (j.natAbs : Int) = j := by omega
  have e2 : ((2 ^ 200 : Nat) : Int) = 2 ^ 200 := by decide +kernel
  omega
theorem cshl {i j : Int} (h0 : 0 ≤ j) (h1 : j ≤ 100000) (h2 : -(2 ^ 200) < i) (h3 : i < 2 ^ 200) : CShl i j := by
  obtain ⟨n, rfl⟩ := Int.eq_ofNat_of_zero_le h0
  have e2 : ((2 ^ 200 : Nat) : Int) = 2 ^ 200 := by decide +kernel
  exact shl_ok (n := 200) (by omega) (by omega)
theorem cpow10 : CPow 10 18 := ⟨by decide, by decide, by decide⟩
end An
namespace An
open PySem PySem.W PySem.Spec PyProof.Rows L2 TL Bits Builtin Builtin.Str Builtin.Int Builtin.Float
def hexL (n : Nat) : List Nat := (Nat.toDigits 16 n).map Char.toNat
def hexF (f : FormatSpec) (n : Nat) : Str := intField' f (decide ((n : Int) < 0)) [] ((Nat.toDigits 16 (n : Int).natAbs).map fun c => (if (120 : Nat) == 88 then c.toUpper else c).toNat) [] 4
section
variable {prog : Program} {w : World} {A : Around} {E : Value → Shared → Prop} {s : Shared}
theorem field_hex {n fl al : Nat} {W : Option Nat} {t : Tok} {spec : Str} {Q : Value → Shared → Prop}
    (hp : parseFormatSpec spec.cps.toList "int" 62 = .ok { fill := fl, align := al, width := W, type := some 120 }) (hne : (spec.length == 0) = false)
    (hasc : ((spec.cps.toList.drop 1).any (· ≥ 128) || (spec.cps.getD 0 0 ≥ 128 && !([60, 62, 61, 94] : List Nat).contains (spec.cps.getD 1 0))) = false)
    (hw : W.getD 0 ≤ 100000) (hx : (hexF { fill := fl, align := al, width := W, type := some 120 } n).length ≤ sizeLine) (hsz : spec.length ≤ sizeLine)
    (h : Q (.str (hexF { fill := fl, align := al, width := W, type := some 120 } n) (s.toks + 1)) { s with toks := s.toks + 1 + 1 }) :
    wpAny (model prog w) A (formatField (.int (n : Int) t) spec) Q E s := by
  show wpAny _ _ (holding [.int (n : Int) t] (pyFormat (.int (n : Int) t) spec)) Q E s
  refine wpAny_holding ?_
  unfold pyFormat
  refine wpAny_bind (wpAny_mkStr ?_ hsz)
  refine wpAny_bind (m := callSpecial? (.int (n : Int) t) (Str.ofString "__format__") [.str spec s.toks]) (wpAny_callSpecial?_slot (name := Str.ofString "__format__") (typeIs_int _ _ t) slot_int_format ?_)
  refine wpAny_call (codeAny_call_builtin slot_int_format.plain entry_int_format (slot_int_format.check _ _ _ _ _ _ _ _ (typeIs_int _ _ t) (args_int_format _ _) ?_))
  unfold Builtin.«int.__format__»
  simp only [selfAndOne, noKeywords, Int.intOfSelf, asInt?, asStr?, List.isEmpty_nil, if_true, pure_bind, bind_pure, bind_assoc, hne, hasc, Bool.false_eq_true, if_false,
    show (Value.str spec s.toks == Value.none) = false from rfl]
  refine wpAny_bind (wpAny_typeNameOf (T := "str") (typeIs_str _ _ _) (by decide) fun _ => ?_)
  first | refine wpAny_bind (wpAny_typeNameOfCut_int ?_) | refine wpAny_bind (wpAny_typeNameOf_int ?_)
  simp only [hp, Option.getD_some]
  rw [if_pos (by decide)]
  show wpAny _ _ (if W.getD 0 > 100000 then _ else _) _ _ _
  rw [if_neg (by omega)]
  show wpAny _ _ (retStr (hexF { fill := fl, align := al, width := W, type := some 120 } n)) _ _ _
  unfold retStr
  refine wpAny_bind (wpAny_mkStr (wpAny_pure ?_) hx)
  dsimp only
  exact wpAny_bind (wpAny_isInstance (typeIs_str _ _ _) isSubtype_str_str (wpAny_pure h))
theorem toDigits_ne (n : Nat) : Nat.toDigits 16 n ≠ [] := by
  intro e
  have := tDigits_len_ge 16 n
  rw [e] at this
  exact absurd this (by decide)
theorem hexD_ne (n : Nat) : (hexL n).isEmpty = false := by
  unfold hexL
  cases e : Nat.toDigits 16 n with
  | nil => exact absurd e (toDigits_ne n)
  | cons c r => rfl
theorem hexF_eq (f : FormatSpec) (n : Nat) : hexF f n = intField' f false [] (hexL n) [] 4 := by
  have hn : decide ((n : Int) < 0) = false := decide_eq_false (by omega)
  unfold hexF
  rw [hn]; rfl
theorem fld_plain {D : List Nat} (hD : D.isEmpty = false) : intField' { fill := 32, align := 62, width := none, type := some 120 } false [] D [] 4 = ⟨D.toArray⟩ := by
  unfold intField'
  simp only [hD, Bool.false_eq_true, if_false, show ((62 : Nat) == 60) = false from rfl, show ((62 : Nat) == 94) = false from rfl, show ((62 : Nat) == 61) = false from rfl, Bool.and_false]
  have e0 : ((-1 : Int) - ((([] : List Nat).length : Int) + (([] : List Nat).length : Int) + (([] : List Nat).length : Int)) - ((List.replicate ((0 : Int).toNat - D.length) 48 ++ D).length : Int)).toNat = 0 := by
    simp only [List.length_nil]; omega
  rw [e0]
  simp
theorem fld_zero {D : List Nat} {W : Nat} (hD : D.isEmpty = false) : intField' { fill := 48, align := 61, width := some W, type := some 120 } false [] D [] 4 = ⟨(List.replicate (W - D.length) 48 ++ D).toArray⟩ := by
  unfold intField'
  simp only [hD, Bool.false_eq_true, if_false, show ((61 : Nat) == 60) = false from rfl, show ((61 : Nat) == 94) = false from rfl, beq_self_eq_true, Bool.and_self, if_true]
  have e1 : ((W : Int) - ((([] : List Nat).length : Int) + (([] : List Nat).length : Int) + (([] : List Nat).length : Int))).toNat = W := by simp only [List.length_nil]; omega
  rw [e1]
  have e0 : ((W : Int) - ((([] : List Nat).length : Int) + (([] : List Nat).length : Int) + (([] : List Nat).length : Int)) - ((List.replicate (W - D.length) 48 ++ D).length : Int)).toNat = 0 := by
    rw [List.length_append, List.length_replicate]
    simp only [List.length_nil]; omega
  rw [e0]
  simp
def hexS (n : Nat) : Str := ⟨(hexL n).toArray⟩
def hexZ (W n : Nat) : Str := ⟨(List.replicate (W - (hexL n).length) 48 ++ hexL n).toArray⟩
theorem field_x {n : Nat} {t : Tok} {Q : Value → Shared → Prop} (hx : (hexS n).length ≤ sizeLine) (h : Q (.str (hexS n) (s.toks + 1)) { s with toks := s.toks + 1 + 1 }) : wpAny (model prog w) A (formatField (.int (n : Int) t) ("x" : Str)) Q E s := by
  have e : hexF { fill := 32, align := 62, width := none, type := some 120 } n = hexS n := by rw [hexF_eq]; exact fld_plain (hexD_ne n)
  exact field_hex (fl := 32) (al := 62) (W := none) (by kernel_rfl) (by decide +kernel) (by decide +kernel) (by decide) (by rw [e]; exact hx) (by decide +kernel) (by rw [e]; exact h)
theorem field_x4 {n : Nat} {t : Tok} {Q : Value → Shared → Prop} (hx : (hexZ 4 n).length ≤ sizeLine) (h : Q (.str (hexZ 4 n) (s.toks + 1)) { s with toks := s.toks + 1 + 1 }) : wpAny (model prog w) A (formatField (.int (n : Int) t) ("04x" : Str)) Q E s := by
  have e : hexF { fill := 48, align := 61, width := some 4, type := some 120 } n = hexZ 4 n := by rw [hexF_eq]; exact fld_zero (hexD_ne n)
  exact field_hex (fl := 48) (al := 61) (W := some 4) (by kernel_rfl) (by decide +kernel) (by decide +kernel) (by decide) (by rw [e]; exact hx) (by decide +kernel) (by rw [e]; exact h)
theorem field_x32 {n : Nat} {t : Tok} {Q : Value → Shared → Prop} (hx : (hexZ 32 n).length ≤ sizeLine) (h : Q (.str (hexZ 32 n) (s.toks + 1)) { s with toks := s.toks + 1 + 1 }) : wpAny (model prog w) A (formatField (.int (n : Int) t) ("032x" : Str)) Q E s := by
  have e : hexF { fill := 48, align := 61, width := some 32, type := some 120 } n = hexZ 32 n := by rw [hexF_eq]; exact fld_zero (hexD_ne n)
  exact field_hex (fl := 48) (al := 61) (W := some 32) (by kernel_rfl) (by decide +kernel) (by decide +kernel) (by decide) (by rw [e]; exact hx) (by decide +kernel) (by rw [e]; exact h)
end
/-! ### {e:x}, {e:04x}, {e:032x} -/
def tFmtX (F : Nat → Str) (te : TE) : TE := fun σ H Q => te σ H fun x H1 => ∃ n : Nat, x = .int (n : Int) ∧ (F n).length ≤ sizeLine ∧ Q (.str (F n)) H1
section
variable {X : Cx} {e : Expr} {te : TE} {k : Nat} {p1 p2 pos : Pos}
theorem pe_fmtW {z : Str} {F : Nat → Str} (hf : ∀ {prog : Program} {w : World} {A : Around} {E : Value → Shared → Prop} {s : Shared} {n : Nat} {t : Tok} {Q : Value → Shared → Prop}, (F n).length ≤ sizeLine → Q (.str (F n) (s.toks + 1)) { s with toks := s.toks + 1 + 1 } → wpAny (model prog w) A (formatField (.int (n : Int) t) z) Q E s)
    (he : PE X e te) : PE X (.FormattedValue e (-1) (some (.JoinedStr [.Constant (.str z) k p1] p2)) pos) (tFmtX F te) := by
  refine ⟨fun pins s σ H Q I h => wpAny_FormattedValue_spec (thn (he.run pins s σ H _ I h) fun u s1 hh => ?_)⟩
  obtain ⟨x, H1, I1, rx, n, rfl, hl, q⟩ := hh
  obtain ⟨t, rfl⟩ := rx
  refine thn ((pe_joined1 (pos := p2) (pe_str (X := X) (x := z) (j := k) (pos := p1))).run pins s1 σ H1 (fun v H2 => v = .str z ∧ H2 = H1) I1 ⟨rfl, rfl⟩) fun r s2 h2 => ?_
  obtain ⟨v, H2, I2, rv, rfl, rfl⟩ := h2
  obtain ⟨t2, rfl⟩ := rv
  exact ⟨z, t2, rfl, hf hl ⟨.str _, H2, I2.tok _, ⟨_, rfl⟩, q⟩⟩
theorem pe_fmtX (he : PE X e te) : PE X (.FormattedValue e (-1) (some (.JoinedStr [.Constant (.str ("x" : Str)) k p1] p2)) pos) (tFmtX hexS te) := pe_fmtW field_x he
theorem pe_fmtX4 (he : PE X e te) : PE X (.FormattedValue e (-1) (some (.JoinedStr [.Constant (.str ("04x" : Str)) k p1] p2)) pos) (tFmtX (hexZ 4) te) := pe_fmtW field_x4 he
theorem pe_fmtX32 (he : PE X e te) : PE X (.FormattedValue e (-1) (some (.JoinedStr [.Constant (.str ("032x" : Str)) k p1] p2)) pos) (tFmtX (hexZ 32) te) := pe_fmtW field_x32 he
end
end An
-- the sides of an operation
local macro_rules | `(tactic| walk_at "side") => `(tactic| first
  | with_reducible exact An.cpow10
  | (with_reducible refine An.cdivw ?_ ?_) <;> omega
  | (with_reducible refine An.cshl ?_ ?_ ?_ ?_) <;> omega
  | (with_reducible refine An.cmul_l ?_; omega)
  | (with_reducible refine An.cmul_r ?_; omega)
  | (show (0 : Int) < _; omega)
  | (show (0 : Int) ≤ _; omega))
-- one step of a reading
local macro_rules | `(tactic| walk_at "rd1") => `(tactic| first
  | refine ⟨_, rfl, ?_⟩
  | refine ⟨_, _, rfl, rfl, (by walk_at "side"), ?_⟩
  | refine ⟨_, _, rfl, rfl, ?_⟩
  | refine Or.inl ⟨_, rfl, ?_⟩
  | refine ⟨(rfl : _ = _), ?_⟩)
local macro_rules | `(tactic| walk_at "rd") => `(tactic| repeat walk_at "rd1")
-- what stood stands: along the heaps that the context names
local macro_rules | `(tactic| walk_at "same") => `(tactic| first
  | assumption
  | exact L2.Same.refl _
  | (refine An.same_new ?_ (by assumption)) <;> walk_at "same"
  | (refine L2.Same.trans ?_ (by assumption)) <;> walk_at "same")
-- the conditions of a promise
local macro_rules | `(tactic| walk_at "pre") => `(tactic| first
  | with_reducible assumption
  | omega
  | exact .inl rfl
  | exact .inr rfl
  | decide)
-- lengths within the line
local macro_rules | `(tactic| walk_at "len") => `(tactic| first
  | with_reducible assumption
  | (refine An.sizeL' ?_; first | with_reducible assumption | omega | (simp only [List.length_append, List.length_map, List.length_cons, List.length_nil, List.length_range, List.length_replicate]; omega))
  | (refine An.sizeLt' ?_; first | with_reducible assumption | omega | (simp only [List.length_append, List.length_map, List.length_cons, List.length_nil, List.length_range, List.length_replicate]; omega)))
local macro_rules | `(tactic| walk_at "lt") => `(tactic| first
  | with_reducible assumption
  | omega
  | (simp only [List.length_append, List.length_map, List.length_cons, List.length_nil, List.length_range]; omega))
local macro_rules | `(tactic| walk_at "log") => `(tactic| exact An.log_small (by omega) (by omega))
-- each of some written items
local macro_rules | `(tactic| walk_at "each") => `(tactic| (repeat' (with_reducible refine An.fa_cons ?_ ?_)) <;> first | exact An.fa_nil | exact ⟨_, rfl, by omega, by omega⟩)
-- a test's answer
local macro_rules | `(tactic| walk_at "dec") => `(tactic| first
  | with_reducible exact An.neF rfl
  | with_reducible exact An.eqT rfl
  | (with_reducible refine An.intF ?_; omega)
  | (with_reducible refine An.intT ?_; omega)
  | (with_reducible refine An.intNF ?_; omega)
  | (with_reducible refine An.intNT ?_; omega)
  | (with_reducible refine decide_eq_true ?_; omega)
  | (with_reducible refine decide_eq_false ?_; omega)
  | (simp; done)
  | (simp; omega))
namespace An
open PySem PySem.W PySem.Spec PyProof.Rows L2 TL Bits
def top (i : Nat) : Stmt := PySem.Challenge.pw_addressnets_k08_names_for_looking_up.main.body.getD i (.Pass ⟨0, 0, 0, 0⟩)
structure Tx (K : Frag) (mg : Str → Option Value) : Prop where
  d__law_mix : FnS K "_law_mix" "_law_mix" (top 40) (He.ga K "_law_mix")
  kp__law_mix : keepIn K (.ref (He.ga K "_law_mix")) = true
  g__law_mix : mg "_law_mix" = some (.ref (He.ga K "_law_mix"))
  f_int : mg "int" = none
  d__law_source : FnS K "_law_source" "_law_source" (top 41) (He.ga K "_law_source")
  kp__law_source : keepIn K (.ref (He.ga K "_law_source")) = true
  g__law_source : mg "_law_source" = some (.ref (He.ga K "_law_source"))
  f_len : mg "len" = none
  d__law_draw : FnS K "_law_draw" "_law_draw" (top 42) (He.ga K "_law_draw")
  kp__law_draw : keepIn K (.ref (He.ga K "_law_draw")) = true
  g__law_draw : mg "_law_draw" = some (.ref (He.ga K "_law_draw"))
  d__law_number : FnS K "_law_number" "_law_number" (top 43) (He.ga K "_law_number")
  kp__law_number : keepIn K (.ref (He.ga K "_law_number")) = true
  g__law_number : mg "_law_number" = some (.ref (He.ga K "_law_number"))
  f_min : mg "min" = none
  f_range : mg "range" = none
  d_part_fault : FnS K "part_fault" "part_fault" (top 10) (He.ga K "part_fault")
  kp_part_fault : keepIn K (.ref (He.ga K "part_fault")) = true
  g_part_fault : mg "part_fault" = some (.ref (He.ga K "part_fault"))
  f_all : mg "all" = none
  s_DIGITS : ∃ t, mg "DIGITS" = some (.str "0123456789" t)
  d_quad_fault : FnS K "quad_fault" "quad_fault" (top 11) (He.ga K "quad_fault")
  kp_quad_fault : keepIn K (.ref (He.ga K "quad_fault")) = true
  g_quad_fault : mg "quad_fault" = some (.ref (He.ga K "quad_fault"))
  d_read_quad : FnS K "read_quad" "read_quad" (top 12) (He.ga K "read_quad")
  kp_read_quad : keepIn K (.ref (He.ga K "read_quad")) = true
  g_read_quad : mg "read_quad" = some (.ref (He.ga K "read_quad"))
  d_quad_parts : FnS K "quad_parts" "quad_parts" (top 13) (He.ga K "quad_parts")
  kp_quad_parts : keepIn K (.ref (He.ga K "quad_parts")) = true
  g_quad_parts : mg "quad_parts" = some (.ref (He.ga K "quad_parts"))
  d_quad_text : FnS K "quad_text" "quad_text" (top 14) (He.ga K "quad_text")
  kp_quad_text : keepIn K (.ref (He.ga K "quad_text")) = true
  g_quad_text : mg "quad_text" = some (.ref (He.ga K "quad_text"))
  d_quad_place : FnS K "quad_place" "quad_place" (top 17) (He.ga K "quad_place")
  kp_quad_place : keepIn K (.ref (He.ga K "quad_place")) = true
  g_quad_place : mg "quad_place" = some (.ref (He.ga K "quad_place"))
  d_has_wrong_quad : FnS K "has_wrong_quad" "has_wrong_quad" (top 18) (He.ga K "has_wrong_quad")
  kp_has_wrong_quad : keepIn K (.ref (He.ga K "has_wrong_quad")) = true
  g_has_wrong_quad : mg "has_wrong_quad" = some (.ref (He.ga K "has_wrong_quad"))
  d_has_wrong_gaps : FnS K "has_wrong_gaps" "has_wrong_gaps" (top 19) (He.ga K "has_wrong_gaps")
  kp_has_wrong_gaps : keepIn K (.ref (He.ga K "has_wrong_gaps")) = true
  g_has_wrong_gaps : mg "has_wrong_gaps" = some (.ref (He.ga K "has_wrong_gaps"))
  d_has_wrong_ends : FnS K "has_wrong_ends" "has_wrong_ends" (top 20) (He.ga K "has_wrong_ends")
  kp_has_wrong_ends : keepIn K (.ref (He.ga K "has_wrong_ends")) = true
  g_has_wrong_ends : mg "has_wrong_ends" = some (.ref (He.ga K "has_wrong_ends"))
  d_hex_groups : FnS K "hex_groups" "hex_groups" (top 21) (He.ga K "hex_groups")
  kp_hex_groups : keepIn K (.ref (He.ga K "hex_groups")) = true
  g_hex_groups : mg "hex_groups" = some (.ref (He.ga K "hex_groups"))
  d_parts_of : FnS K "parts_of" "parts_of" (top 22) (He.ga K "parts_of")
  kp_parts_of : keepIn K (.ref (He.ga K "parts_of")) = true
  g_parts_of : mg "parts_of" = some (.ref (He.ga K "parts_of"))
  d_has_wrong_count : FnS K "has_wrong_count" "has_wrong_count" (top 23) (He.ga K "has_wrong_count")
  kp_has_wrong_count : keepIn K (.ref (He.ga K "has_wrong_count")) = true
  g_has_wrong_count : mg "has_wrong_count" = some (.ref (He.ga K "has_wrong_count"))
  d_groups_fault : FnS K "groups_fault" "groups_fault" (top 24) (He.ga K "groups_fault")
  kp_groups_fault : keepIn K (.ref (He.ga K "groups_fault")) = true
  g_groups_fault : mg "groups_fault" = some (.ref (He.ga K "groups_fault"))
  s_HEX : ∃ t, mg "HEX" = some (.str "0123456789abcdef" t)
  d_hex_number : FnS K "hex_number" "hex_number" (top 25) (He.ga K "hex_number")
  kp_hex_number : keepIn K (.ref (He.ga K "hex_number")) = true
  g_hex_number : mg "hex_number" = some (.ref (He.ga K "hex_number"))
  d_read_groups : FnS K "read_groups" "read_groups" (top 26) (He.ga K "read_groups")
  kp_read_groups : keepIn K (.ref (He.ga K "read_groups")) = true
  g_read_groups : mg "read_groups" = some (.ref (He.ga K "read_groups"))
  d_group_numbers : FnS K "group_numbers" "group_numbers" (top 27) (He.ga K "group_numbers")
  kp_group_numbers : keepIn K (.ref (He.ga K "group_numbers")) = true
  g_group_numbers : mg "group_numbers" = some (.ref (He.ga K "group_numbers"))
  d_longest_run : FnS K "longest_run" "longest_run" (top 28) (He.ga K "longest_run")
  kp_longest_run : keepIn K (.ref (He.ga K "longest_run")) = true
  g_longest_run : mg "longest_run" = some (.ref (He.ga K "longest_run"))
  f_enumerate : mg "enumerate" = none
  d_groups_text : FnS K "groups_text" "groups_text" (top 29) (He.ga K "groups_text")
  kp_groups_text : keepIn K (.ref (He.ga K "groups_text")) = true
  g_groups_text : mg "groups_text" = some (.ref (He.ga K "groups_text"))
  d_is_integer : FnS K "is_integer" "is_integer" (top 33) (He.ga K "is_integer")
  kp_is_integer : keepIn K (.ref (He.ga K "is_integer")) = true
  g_is_integer : mg "is_integer" = some (.ref (He.ga K "is_integer"))
  f_isinstance : mg "isinstance" = none
  f_bool : mg "bool" = none
  d_is_from : FnS K "is_from" "is_from" (top 34) (He.ga K "is_from")
  kp_is_from : keepIn K (.ref (He.ga K "is_from")) = true
  g_is_from : mg "is_from" = some (.ref (He.ga K "is_from"))
  d_number_of : FnS K "number_of" "number_of" (top 36) (He.ga K "number_of")
  kp_number_of : keepIn K (.ref (He.ga K "number_of")) = true
  g_number_of : mg "number_of" = some (.ref (He.ga K "number_of"))
  f_str : mg "str" = none
  i_WIDTH4 : ∃ t, mg "WIDTH4" = some (.int 32 t)
  d__law_quad : FnS K "_law_quad" "_law_quad" (top 44) (He.ga K "_law_quad")
  kp__law_quad : keepIn K (.ref (He.ga K "_law_quad")) = true
  g__law_quad : mg "_law_quad" = some (.ref (He.ga K "_law_quad"))
  d__law_groups : FnS K "_law_groups" "_law_groups" (top 45) (He.ga K "_law_groups")
  kp__law_groups : keepIn K (.ref (He.ga K "_law_groups")) = true
  g__law_groups : mg "_law_groups" = some (.ref (He.ga K "_law_groups"))
  d__law_hex : FnS K "_law_hex" "_law_hex" (top 46) (He.ga K "_law_hex")
  kp__law_hex : keepIn K (.ref (He.ga K "_law_hex")) = true
  g__law_hex : mg "_law_hex" = some (.ref (He.ga K "_law_hex"))
  d__law_spelled : FnS K "_law_spelled" "_law_spelled" (top 47) (He.ga K "_law_spelled")
  kp__law_spelled : keepIn K (.ref (He.ga K "_law_spelled")) = true
  g__law_spelled : mg "_law_spelled" = some (.ref (He.ga K "_law_spelled"))
  dm_Address4____init__ : FnS K "__init__" "Address4.__init__" (inClass (top 37) 2) (He.ma K (He.ga K "Address4") "__init__")
  g_Address4 : mg "Address4" = some (.ref (He.ga K "Address4"))
  ki_int_Address4 : kitOne K (.type "int") (.ref (He.ga K "Address4")) = some false
  c_Address4 : Cls K (He.ga K "Address4")
  na_Address4__number : NoAttr K (He.ga K "Address4") "number"
  ki_str_Address4 : kitOne K (.type "str") (.ref (He.ga K "Address4")) = some false
  ty_Address4 : TyI K (He.ga K "Address4")
  ki_Address4_Address4 : kitOne K (.ref (He.ga K "Address4")) (.ref (He.ga K "Address4")) = some true
  mk_Address4 : Mk K (He.ga K "Address4") (He.ma K (He.ga K "Address4") "__init__")
  dm_Address4____str__ : FnS K "__str__" "Address4.__str__" (inClass (top 37) 12) (He.ma K (He.ga K "Address4") "__str__")
  dm_Address6____init__ : FnS K "__init__" "Address6.__init__" (inClass (top 38) 2) (He.ma K (He.ga K "Address6") "__init__")
  g_Address6 : mg "Address6" = some (.ref (He.ga K "Address6"))
  i_WIDTH6 : ∃ t, mg "WIDTH6" = some (.int 128 t)
  ki_int_Address6 : kitOne K (.type "int") (.ref (He.ga K "Address6")) = some false
  c_Address6 : Cls K (He.ga K "Address6")
  na_Address6__number : NoAttr K (He.ga K "Address6") "number"
  ki_str_Address6 : kitOne K (.type "str") (.ref (He.ga K "Address6")) = some false
  ty_Address6 : TyI K (He.ga K "Address6")
  ki_Address6_Address6 : kitOne K (.ref (He.ga K "Address6")) (.ref (He.ga K "Address6")) = some true
  mk_Address6 : Mk K (He.ga K "Address6") (He.ma K (He.ga K "Address6") "__init__")
  dm_Address6____str__ : FnS K "__str__" "Address6.__str__" (inClass (top 38) 13) (He.ma K (He.ga K "Address6") "__str__")
  dm_Address4__pointer : FnS K "pointer" "Address4.pointer" (inClass (top 37) 7) (wfA K "Address4" "property" "pointer")
  dm_Address6__pointer : FnS K "pointer" "Address6.pointer" (inClass (top 38) 7) (wfA K "Address6" "property" "pointer")
  d_law : FnS K "law" "law" (top 48) (He.ga K "law")
  g_law : mg "law" = some (.ref (He.ga K "law"))
  f_max : mg "max" = none
  p_Address4__pointer : PropOf K (He.ga K "Address4") "pointer" (He.ma K (He.ga K "Address4") "pointer") (wfA K "Address4" "property" "pointer")
  f_list : mg "list" = none
  p_Address6__pointer : PropOf K (He.ga K "Address6") "pointer" (He.ma K (He.ga K "Address6") "pointer") (wfA K "Address6" "property" "pointer")
section
variable {P : Program} {w : World} {K : Frag} {mg : Str → Option Value} {base : Heap}
abbrev s__law_mix : Stmt := (top 40)
abbrev N__law_mix : List Str := [("_law_cell" : Str), ("_law_step" : Str), ("_law_blend" : Str)]
theorem sc__law_mix : FnScope N__law_mix [("_law_cell" : Str), ("_law_step" : Str)] (defScope s__law_mix) := ⟨rfl, rfl, rfl, by decide +kernel, rfl, by decide +kernel, by decide +kernel⟩
def sp__law_mix (K : Frag) : Sp := fun vs H Q E => ∃ c t : Int, vs = [.int c, .int t] ∧ ∀ r : Int, 0 ≤ r → r < 2147483563 → Q (.int r) H
theorem ok__law_mix (T : Tx K mg) : FnG P w K mg base 1 "_law_mix" (sp__law_mix K) := by
  refine ⟨fnr T.d__law_mix sc__law_mix (fun vs H Q E h => by obtain ⟨c, t, rfl, k⟩ := h; rfl) (fun _ _ _ _ _ _ us hl => match us, hl with | [_, _], _ => rfl) (fun cdv A outer s H vs Q E hr h => ?_), T.kp__law_mix, T.g__law_mix⟩
  have nd := sc__law_mix.nd
  have hu := hu_of hr
  obtain ⟨c, t, rfl, k⟩ := h
  refine ⟨_, PSs.nox (pss_cons (ps_set (i := 2) nd rfl (Or.inl rfl) (pe_op op_add (pe_op op_add (pe_op op_add (pe_op op_mod (pe_callTy call_int1 (by rfl) T.f_int bb_int (pa_cons (pv 0) pa_nil)) pe_int) (pe_op op_mul pe_int (pv 1))) (pe_op op_mod (pe_callTy call_int1 (by rfl) T.f_int bb_int (pa_cons (pe_op op_fdivW (pv 0) pe_int) pa_nil)) pe_int)) pe_int))
        (pss_cons (ps_set (i := 2) nd rfl (Or.inl rfl) (pe_op op_mod (pe_callTy call_int1 (by rfl) T.f_int bb_int (pa_cons (pe_op op_mul (pv 2) pe_int) pa_nil)) pe_int))
        (pss_cons (ps_set (i := 2) nd rfl (Or.inl rfl) (pe_op op_mod (pe_callTy call_int1 (by rfl) T.f_int bb_int (pa_cons (pe_op op_mul (pv 2) (pe_op op_add (pe_op op_add (pe_op op_fdivW (pv 2) pe_int) pe_int) (pv 1))) pa_nil)) pe_int))
        (pss_one (ps_ret (pe_op op_mod (pe_callTy call_int1 (by rfl) T.f_int bb_int (pa_cons (pe_op op_mul (pv 2) (pe_op op_add (pe_op op_fdivW (pv 2) pe_int) pe_int)) pa_nil)) pe_int)))))), ?_⟩
  walk_at "rd"
  exact k _ (Int.emod_nonneg _ (by decide)) (Int.emod_lt_of_pos _ (by decide))
abbrev s__law_source : Stmt := (top 41)
abbrev N__law_source : List Str := [("_law_script" : Str), ("_law_k" : Str), ("_law_cell" : Str)]
theorem sc__law_source : FnScope N__law_source [("_law_script" : Str), ("_law_k" : Str)] (defScope s__law_source) := ⟨rfl, rfl, rfl, by decide +kernel, rfl, by decide +kernel, by decide +kernel⟩
def sp__law_source (K : Frag) : Sp := fun vs H Q E => ∃ (a : Addr) (ns : List Int) (k : Int), vs = [.ref a, .int k] ∧ SqL K H a (ns.map V.int) ∧ ns.length ≤ 63 ∧ 0 ≤ k ∧ k ≤ 63 ∧ ∀ (p : Addr) (H' : Hp), Same H H' → H p = none → Src H' p → Q (.ref p) H'
theorem ok__law_source (T : Tx K mg) : FnG P w K mg base 1 "_law_source" (sp__law_source K) := by
  refine ⟨fnr T.d__law_source sc__law_source (fun vs H Q E h => by obtain ⟨a, ns, k, rfl, hS, hl, h0, h1, q⟩ := h; rfl) (fun _ _ _ _ _ _ us hl => match us, hl with | [_, _], _ => rfl) (fun cdv A outer s H vs Q E hr h => ?_), T.kp__law_source, T.g__law_source⟩
  have nd := sc__law_source.nd
  have hu := hu_of hr
  obtain ⟨a, ns, k, rfl, hS, hl, h0, h1, q⟩ := h
  refine ⟨_, PSs.nox (pss_cons (ps_set (i := 2) nd rfl (Or.inl rfl) (pe_op op_add (pe_ix (x_list K) (pe_op (o_catA K) (pv 0) (p_lst (pa_cons pe_int pa_nil))) pe_int (fun _ _ => rfl)) (pe_op op_mul pe_int (pv 1))))
        (pss_cons (ps_if (pt_cmpR op_lt (pv 1) (pe_callB (c_lenq K) (by rfl) T.f_len bb_len (pa_cons (pv 0) pa_nil)) (nomark _)) (pss_one (ps_set (i := 2) nd rfl (Or.inl rfl) (pe_ix (x_list K) (pv 0) (pv 1) (fun _ _ => rfl))))
        pss_nil)
        (pss_one (ps_ret (p_lstS (pa_cons (pv 2) (pa_cons (pv 2) (pa_cons pe_int pa_nil)))))))), ?_⟩
  walk_at "rd"
  refine ⟨lz, fun p1 H1 s1 np1 hp1 => ?_⟩
  refine ⟨_, _, _, _, rfl, rfl, s1.seq hS, SqL.of hp1, ?_, fun p2 H2 s12 np2 hp2 => ?_⟩
  · rw [List.length_map]; show ns.length + 1 ≤ sizeLine; exact Nat.le_trans (Nat.succ_le_succ hl) (by decide)
  have s2 : Same H H2 := s1.trans s12
  obtain ⟨c0, hc0⟩ : ∃ c0, (ns.map V.int ++ [V.int 0])[0]? = some (V.int c0) := by
    cases ns with
    | nil => exact ⟨0, rfl⟩
    | cons n r => exact ⟨n, rfl⟩
  refine ⟨_, _, _, _, rfl, rfl, SqL.of hp2, atI_nat (j := 0) hc0, ?_⟩
  walk_at "rd"
  refine ⟨_, _, rfl, Or.inl (s2.seq hS), ?_⟩
  walk_at "rd"
  refine ite2 (fun hk => ?_) (fun hk => ?_)
  · have hk2 : k < (ns.map V.int).length := of_decide_eq_true hk
    rw [List.length_map] at hk2
    have hlt : k.toNat < ns.length := by omega
    have e1 : (ns.map V.int)[k.toNat]? = some (V.int ns[k.toNat]) := by rw [List.getElem?_map, List.getElem?_eq_getElem hlt]; rfl
    have e2 : atI (ns.map V.int) k = some (V.int ns[k.toNat]) := by
      have := atI_nat e1
      rwa [Int.toNat_of_nonneg h0] at this
    walk_at "rd"
    refine ⟨_, _, _, _, rfl, rfl, s2.seq hS, e2, ?_⟩
    walk_at "rd"
    exact ⟨_, _, _, rfl, fun p3 H3 s3 np3 hp3 => q p3 _ (s2.trans s3) (s2.free np3) hp3⟩
  · walk_at "rd"
    exact ⟨_, _, _, rfl, fun p3 H3 s3 np3 hp3 => q p3 _ (s2.trans s3) (s2.free np3) hp3⟩
abbrev s__law_draw : Stmt := (top 42)
abbrev N__law_draw : List Str := [("_law_source_here" : Str), ("_law_many" : Str), ("_law_found" : Str)]
theorem sc__law_draw : FnScope N__law_draw [("_law_source_here" : Str), ("_law_many" : Str)] (defScope s__law_draw) := ⟨rfl, rfl, rfl, by decide +kernel, rfl, by decide +kernel, by decide +kernel⟩
def sp__law_draw (K : Frag) : Sp := fun vs H Q E => ∃ (a : Addr) (m : Int), vs = [.ref a, .int m] ∧ Src H a ∧ 0 < m ∧ m < 2 ^ 200 ∧ ∀ r : Int, 0 ≤ r → r < m → Q (.int r) H
theorem ok__law_draw (T : Tx K mg) : FnG P w K mg base 2 "_law_draw" (sp__law_draw K) := by
  have F__law_mix := ok__law_mix (P := P) (w := w) (base := base) T
  refine ⟨fnr T.d__law_draw sc__law_draw (fun vs H Q E h => by obtain ⟨a, m, rfl, hS, h0, h1, q⟩ := h; rfl) (fun _ _ _ _ _ _ us hl => match us, hl with | [_, _], _ => rfl) (fun cdv A outer s H vs Q E hr h => ?_), T.kp__law_draw, T.g__law_draw⟩
  have nd := sc__law_draw.nd
  have hu := hu_of hr
  obtain ⟨a, m, rfl, hS, h0, h1, q⟩ := h
  refine ⟨_, PSs.nox (pss_cons (ps_if (pt_cmpR op_ge (pe_ix x_src (pv 0) pe_int (fun _ _ => rfl)) (pe_op op_pow pe_int pe_int) (nomark _)) (pss_cons (ps_set (i := 2) nd rfl (Or.inl rfl) (pe_op op_mod (pe_callTy call_int1 (by rfl) T.f_int bb_int (pa_cons (pe_ix x_src (pv 0) pe_int (fun _ _ => rfl)) pa_nil)) (pv 1)))
        (pss_cons (ps_asg (pe_op op_fdivW (pe_ix x_src (pv 0) pe_int (fun _ _ => rfl)) (pv 1)) (pg_sub (pv 0) pe_int set_src))
        (pss_one (ps_ret (pv 2)))))
        pss_nil)
        (pss_cons (ps_asg (pe_op op_add (pe_ix x_src (pv 0) pe_int (fun _ _ => rfl)) pe_int) (pg_sub (pv 0) pe_int set_src))
        (pss_one (ps_ret (pe_op op_mod (pe_callTy call_int1 (by rfl) T.f_int bb_int (pa_cons (pe_f F__law_mix (hr.mono (by decide)) passL (pa_cons (pe_ix x_src (pv 0) pe_int (fun _ _ => rfl)) (pa_cons (pe_ix x_src (pv 0) pe_int (fun _ _ => rfl)) pa_nil))) pa_nil)) (pv 1)))))), ?_⟩
  refine ⟨_, rfl, _, _, rfl, rfl, hS, (by omega), fun kk1 => ?_⟩
  refine ⟨_, _, rfl, rfl, (by walk_at "side"), _, _, rfl, rfl, _, rfl, ?_⟩
  refine ite2 (fun h => ?_) (fun h => ?_)
  · refine ⟨_, rfl, _, _, rfl, rfl, hS, (by omega), fun kk2 => ?_⟩
    refine Or.inl ⟨_, rfl, ?_⟩
    refine ⟨_, rfl, _, _, rfl, rfl, (by walk_at "side"), _, rfl, _, _, rfl, rfl, hS, (by omega), fun kk3 => ?_⟩
    refine ⟨_, rfl, _, _, rfl, rfl, (by walk_at "side"), _, rfl, _, _, _, rfl, rfl, rfl, hS, (by omega), _, rfl, ?_⟩
    exact q _ (Int.emod_nonneg _ (by omega)) (Int.emod_lt_of_pos _ h0)
  · refine ⟨_, rfl, _, _, rfl, rfl, hS, (by omega), fun kk4 => ?_⟩
    refine ⟨_, _, rfl, rfl, _, rfl, _, _, _, rfl, rfl, rfl, hS, (by omega), _, rfl, _, _, rfl, rfl, hS, (by omega), fun kk5 => ?_⟩
    refine ⟨_, rfl, _, _, rfl, rfl, hS, (by omega), fun kk6 => ?_⟩
    refine ⟨_, _, rfl, fun r1 hy1 hy2 => ?_⟩
    refine Or.inl ⟨_, rfl, ?_⟩
    refine ⟨_, rfl, _, _, rfl, rfl, (by walk_at "side"), ?_⟩
    exact q _ (Int.emod_nonneg _ (by omega)) (Int.emod_lt_of_pos _ h0)
theorem for_range8 {g : TG} {tb : TS} {D : Ends} {H : Hp} {u0 u1 u2 u3 u4 u5 u6 u7 : Option V} {lo : Int} {n : Nat} (Pv : Option V → Option V → Option V → Option V → Option V → Option V → Option V → Option V → Hp → Nat → L2.St → Hp → Prop) (h0 : Pv u0 u1 u2 u3 u4 u5 u6 u7 H 0 [u0, u1, u2, u3, u4, u5, u6, u7] H) (hs : ∀ i σ' H', i < n → Pv u0 u1 u2 u3 u4 u5 u6 u7 H i σ' H' → g (.int (lo + i)) σ' H' fun σ2 H2 => tb { D with nx := Pv u0 u1 u2 u3 u4 u5 u6 u7 H (i + 1), ct := Pv u0 u1 u2 u3 u4 u5 u6 u7 H (i + 1), bk := D.nx } σ2 H2) (hd : ∀ σ' H', Pv u0 u1 u2 u3 u4 u5 u6 u7 H n σ' H' → D.nx σ' H') :
    ∃ W : Nat → Nat → L2.St → Hp → Prop, (∃ m, W 0 m [u0, u1, u2, u3, u4, u5, u6, u7] H) ∧ ∀ i m σ H, W i m σ H →
      ((Itr lo n).stop i H ∧ D.nx σ H) ∨ ((Itr lo n).go i H ∧ ∃ N : L2.St → Hp → Prop, (∀ σ' H', N σ' H' → ∃ m', m' < m ∧ W (i + 1) m' σ' H') ∧ ∀ x H', (Itr lo n).yld i H x H' → g x σ H' fun σ2 H2 => tb { D with nx := N, ct := N, bk := D.nx } σ2 H2) :=
  for_rangeS (σ := [u0, u1, u2, u3, u4, u5, u6, u7]) (fun _ => Pv u0 u1 u2 u3 u4 u5 u6 u7) h0 hs hd
abbrev s__law_number : Stmt := (top 43)
abbrev N__law_number : List Str := [("_law_source_here" : Str), ("_law_bits" : Str), ("_law_top" : Str), ("_law_way" : Str), ("_law_step" : Str), ("_law_found" : Str), ("_law_k" : Str), ("_law_some" : Str)]
theorem sc__law_number : FnScope N__law_number [("_law_source_here" : Str), ("_law_bits" : Str)] (defScope s__law_number) := ⟨rfl, rfl, rfl, by decide +kernel, rfl, by decide +kernel, by decide +kernel⟩
def sp__law_number (K : Frag) : Sp := fun vs H Q E => ∃ (a : Addr) (b : Int), vs = [.ref a, .int b] ∧ (b = 32 ∨ b = 128) ∧ Src H a ∧ ∀ (n : Int) (H' : Hp), 0 ≤ n → n < 2 ^ b.toNat → Same H H' → Q (.int n) H'
theorem ok__law_number (T : Tx K mg) : FnG P w K mg base 3 "_law_number" (sp__law_number K) := by
  have F__law_draw := ok__law_draw (P := P) (w := w) (base := base) T
  refine ⟨fnr T.d__law_number sc__law_number (fun vs H Q E h => by obtain ⟨a, b, rfl, hb, hS, q⟩ := h; rfl) (fun _ _ _ _ _ _ us hl => match us, hl with | [_, _], _ => rfl) (fun cdv A outer s H vs Q E hr h => ?_), T.kp__law_number, T.g__law_number⟩
  have nd := sc__law_number.nd
  have hu := hu_of hr
  obtain ⟨a, b, rfl, hb, hS, q⟩ := h
  refine ⟨_, PSs.nox (pss_cons (ps_set (i := 2) nd rfl (Or.inl rfl) (pe_op op_sub (pe_op op_shlW pe_int (pv 1)) pe_int))
        (pss_cons (ps_set (i := 3) nd rfl (Or.inl rfl) (pe_f F__law_draw (hr.mono (by decide)) passL (pa_cons (pv 0) (pa_cons pe_int pa_nil))))
        (pss_cons (ps_if (pt_cmpR op_eq (pv 3) pe_int (nomark _)) (pss_one (ps_ret (pe_ix (x_list K) (p_lst (pa_cons pe_int (pa_cons pe_int (pa_cons (pv 2) (pa_cons (pe_op op_sub (pv 2) pe_int) pa_nil))))) (pe_f F__law_draw (hr.mono (by decide)) passL (pa_cons (pv 0) (pa_cons pe_int pa_nil))) (fun _ _ => rfl))))
        pss_nil)
        (pss_cons (ps_if (pt_cmpR op_eq (pv 3) pe_int (nomark _)) (pss_one (ps_ret (pe_callB (call_min2 rfl) (by rfl) T.f_min bb_min (pa_cons (pv 2) (pa_cons (pe_op op_sub (pe_op op_add (pe_op op_shlW pe_int (pe_f F__law_draw (hr.mono (by decide)) passL (pa_cons (pv 0) (pa_cons (pe_op op_add (pv 1) pe_int) pa_nil)))) (pe_f F__law_draw (hr.mono (by decide)) passL (pa_cons (pv 0) (pa_cons pe_int pa_nil)))) pe_int) pa_nil)))))
        pss_nil)
        (pss_cons (ps_set (i := 4) nd rfl (Or.inl rfl) (pe_ix (x_list K) (p_lst (pa_cons pe_int (pa_cons pe_int pa_nil))) (pe_callTy call_int1 (by rfl) T.f_int bb_int (pa_cons (pe_cmpR op_eq (pv 1) pe_int (nomark _)) pa_nil)) (fun _ _ => rfl)))
        (pss_cons (ps_set (i := 5) nd rfl (Or.inl rfl) pe_int)
        (pss_cons (ps_for PassesOwn.never rfl (pi_range1 (by rfl) T.f_range (pa_cons (pe_op op_fdivW (pv 1) (pv 4)) pa_nil)) (pg_name (i := 6) nd rfl (Or.inl rfl))
        (pss_cons (ps_set (i := 7) nd rfl (Or.inl rfl) (p_lst (pa_cons pe_int (pa_cons pe_int (pa_cons pe_int (pa_cons pe_int (pa_cons (pe_op op_sub (pe_op op_shlW pe_int (pv 4)) pe_int) (pa_cons (pe_f F__law_draw (hr.mono (by decide)) passL (pa_cons (pv 0) (pa_cons (pe_op op_shlW pe_int (pv 4)) pa_nil))) pa_nil))))))))
        (pss_one (ps_set (i := 5) nd rfl (Or.inl rfl) (pe_op op_add (pe_op op_mul (pv 5) (pe_op op_shlW pe_int (pv 4))) (pe_ix (x_list K) (pv 7) (pe_f F__law_draw (hr.mono (by decide)) passL (pa_cons (pv 0) (pa_cons pe_int pa_nil))) (fun _ _ => rfl)))))))
        (pss_one (ps_ret (pv 5)))))))))), ?_⟩
  have x32 := e32
  have x128 := e128
  have x8 := e8
  have x16 := e16
  have hb2 : 1 ≤ b ∧ b ≤ 128 := by omega
  have hbp : (4294967296 : Int) ≤ 2 ^ b.toNat := by rcases hb with rfl | rfl <;> omega
  obtain ⟨B, hB⟩ : ∃ B, (2 : Int) ^ b.toNat = B := ⟨_, rfl⟩
  rw [hB] at hbp
  refine ⟨_, rfl, _, _, rfl, rfl, (by walk_at "side"), _, _, rfl, rfl, _, rfl, _, _, rfl, hS, (by walk_at "pre"), (by walk_at "pre"), fun r1 hy1 hy2 => ?_⟩
  refine ⟨_, rfl, rfl, _, rfl, ?_⟩
  refine ite2 (fun h => ?_) (fun h => ?_)
  · refine ⟨_, rfl, _, rfl, _, _, rfl, rfl, lz, fun p1 H1 sa1 no1 fa1 => ?_⟩
    refine ⟨_, rfl, _, _, rfl, (hS.same sa1), (by walk_at "pre"), (by walk_at "pre"), fun r2 hy3 hy4 => ?_⟩
    obtain ⟨v1, e1, ⟨i, rfl, i0, i1⟩⟩ := pickQ (K := K) (SqL.of fa1) (P := IntB 0 (2 ^ b.toNat)) (by omega) (by walk_at "lt") (by walk_at "each")
    refine ⟨_, _, _, _, rfl, rfl, (SqL.of fa1), e1, ?_⟩
    exact q _ _ i0 i1 sa1
  · refine ⟨_, rfl, rfl, _, rfl, ?_⟩
    refine ite2 (fun h => ?_) (fun h => ?_)
    · refine ⟨_, rfl, _, rfl, _, rfl, _, _, rfl, rfl, _, _, rfl, hS, (by walk_at "pre"), (by walk_at "pre"), fun r3 hy5 hy6 => ?_⟩
      refine ⟨_, _, rfl, rfl, (by walk_at "side"), _, rfl, _, _, rfl, hS, (by walk_at "pre"), (by walk_at "pre"), fun r4 hy7 hy8 => ?_⟩
      refine ⟨_, _, rfl, rfl, _, _, rfl, rfl, _, _, rfl, ?_⟩
      have pp := pow_pos' r3.toNat
      refine q _ _ ?_ ?_ (Same.refl _)
      · split <;> omega
      · split <;> omega
    · rcases hb with rfl | rfl
      · refine ⟨lz, fun p2 H2 sa2 no2 fa2 => ?_⟩
        refine ⟨_, rfl, rfl, ?_⟩
        refine Or.inr ⟨_, rfl, ?_⟩
        refine ⟨_, _, _, _, rfl, rfl, (SqL.of fa2), atI_nat (j := 0) rfl, _, rfl, _, rfl, _, _, rfl, rfl, (by walk_at "side"), _, rfl, (by omega), (by omega), for_range8 (n := 4) (fun u0 u1 u2 u3 u4 u5 u6 u7 H0 i σ Hx => ∃ (f : Int), ∃ w6 w7 : Option V, σ = [u0, u1, u2, u3, u4, some (.int f), w6, w7] ∧ Same H0 Hx ∧ 0 ≤ f ∧ f < (256 : Int) ^ i) ⟨0, _, _, rfl, (Same.refl _), by decide, by decide⟩ ?_ ?_⟩
        · rintro i σ H4 hi1 ⟨f, w6, w7, rfl, sa3, f0, f1⟩
          refine ⟨_, rfl, _, _, rfl, rfl, (by walk_at "side"), _, _, rfl, rfl, _, rfl, _, rfl, _, _, rfl, rfl, (by walk_at "side"), _, _, rfl, (hS.same (sa2.trans sa3)), (by walk_at "pre"), (by walk_at "pre"), fun r5 hy9 hy10 => ?_⟩
          refine ⟨lz, fun p3 H5 sa4 no3 fa3 => ?_⟩
          refine ⟨_, rfl, _, rfl, _, _, rfl, rfl, (by walk_at "side"), _, _, rfl, rfl, (by walk_at "side"), _, rfl, _, rfl, _, _, rfl, (hS.same (sa2.trans (sa3.trans sa4))), (by walk_at "pre"), (by walk_at "pre"), fun r6 hy11 hy12 => ?_⟩
          obtain ⟨v2, e2, ⟨j, rfl, j0, j1⟩⟩ := pickQ (K := K) (SqL.of fa3) (P := IntB 0 256) (by omega) (by walk_at "lt") (by walk_at "each")
          refine ⟨_, _, _, _, rfl, rfl, (SqL.of fa3), e2, ?_⟩
          refine ⟨_, _, rfl, rfl, ?_⟩
          exact ⟨f * (1 * 2 ^ Int.toNat 8) + j, _, _, rfl, (sa3.trans sa4), by rw [Int.one_mul, e8]; exact (dig_lt (B := 256) (by decide) f0 f1 j0 j1).1, by rw [Int.one_mul, e8]; exact (dig_lt (B := 256) (by decide) f0 f1 j0 j1).2⟩
        · rintro σ H6 ⟨f, w6, w7, rfl, sa5, f0, f1⟩
          refine ⟨_, rfl, ?_⟩
          exact q _ _ f0 (by rw [e32]; exact f1) (sa2.trans sa5)
      · refine ⟨lz, fun p4 H7 sa6 no4 fa4 => ?_⟩
        refine ⟨_, rfl, rfl, ?_⟩
        refine Or.inr ⟨_, rfl, ?_⟩
        refine ⟨_, _, _, _, rfl, rfl, (SqL.of fa4), atI_nat (j := 1) rfl, _, rfl, _, rfl, _, _, rfl, rfl, (by walk_at "side"), _, rfl, (by omega), (by omega), for_range8 (n := 8) (fun u0 u1 u2 u3 u4 u5 u6 u7 H0 i σ Hx => ∃ (f : Int), ∃ w6 w7 : Option V, σ = [u0, u1, u2, u3, u4, some (.int f), w6, w7] ∧ Same H0 Hx ∧ 0 ≤ f ∧ f < (65536 : Int) ^ i) ⟨0, _, _, rfl, (Same.refl _), by decide, by decide⟩ ?_ ?_⟩
        · rintro i σ H9 hi2 ⟨f, w6, w7, rfl, sa7, f0, f1⟩
          refine ⟨_, rfl, _, _, rfl, rfl, (by walk_at "side"), _, _, rfl, rfl, _, rfl, _, rfl, _, _, rfl, rfl, (by walk_at "side"), _, _, rfl, (hS.same (sa6.trans sa7)), (by walk_at "pre"), (by walk_at "pre"), fun r7 hy13 hy14 => ?_⟩
          refine ⟨lz, fun p5 H10 sa8 no5 fa5 => ?_⟩
          refine ⟨_, rfl, _, rfl, _, _, rfl, rfl, (by walk_at "side"), _, _, rfl, rfl, (by walk_at "side"), _, rfl, _, rfl, _, _, rfl, (hS.same (sa6.trans (sa7.trans sa8))), (by walk_at "pre"), (by walk_at "pre"), fun r8 hy15 hy16 => ?_⟩
          obtain ⟨v3, e3, ⟨j, rfl, j0, j1⟩⟩ := pickQ (K := K) (SqL.of fa5) (P := IntB 0 65536) (by omega) (by walk_at "lt") (by walk_at "each")
          refine ⟨_, _, _, _, rfl, rfl, (SqL.of fa5), e3, ?_⟩
          refine ⟨_, _, rfl, rfl, ?_⟩
          exact ⟨f * (1 * 2 ^ Int.toNat 16) + j, _, _, rfl, (sa7.trans sa8), by rw [Int.one_mul, e16]; exact (dig_lt (B := 65536) (by decide) f0 f1 j0 j1).1, by rw [Int.one_mul, e16]; exact (dig_lt (B := 65536) (by decide) f0 f1 j0 j1).2⟩
        · rintro σ H11 ⟨f, w6, w7, rfl, sa9, f0, f1⟩
          refine ⟨_, rfl, ?_⟩
          exact q _ _ f0 (by rw [e128]; exact f1) (sa6.trans sa9)
def digS : Str := "0123456789"
def isDg (c : Nat) : Bool := decide (c ∈ digS.cps.toList)
def partFault (l : List Nat) : Option Str :=
  if l = [] then some ("empty" : Str) else if (l.all isDg) = false then some ("digits" : Str) else if 3 < l.length then some ("long" : Str) else if l.head? = some 48 ∧ l ≠ [48] then some ("zero" : Str)
  else if 255 < NumText.digitsVal l then some ("large" : Str) else none
def optV : Option Str → V
  | none => .non
  | some x => .str x
def firstFault : List (List Nat) → Option Str
  | [] => none
  | p :: r => match partFault p with
    | some w => some w
    | none => firstFault r
/-- cut at every s -/
def sp1 (s : Nat) : List Nat → List Nat → List (List Nat)
  | acc, [] => [acc]
  | acc, c :: r => if c = s then acc :: sp1 s [] r else sp1 s (acc ++ [c]) r
theorem sp1_spl (s : Nat) : ∀ (l acc : List Nat), spl [s] 0 acc l = sp1 s acc l
  | [], acc => spl_nil _ _ _
  | c :: r, acc => by
    by_cases h : c = s
    · subst h
      rw [spl_hit (by unfold pre; simp), show ([c] : List Nat).length - 1 = 0 from rfl, sp1_spl c r []]
      show _ = if c = c then acc :: sp1 c [] r else _
      rw [if_pos rfl]
    · rw [spl_miss (pre_of_head [] r h), sp1_spl s r]
      show _ = if c = s then _ else sp1 s (acc ++ [c]) r
      rw [if_neg h]
theorem sp1_len {s : Nat} : ∀ (l acc p : List Nat), p ∈ sp1 s acc l → p.length ≤ acc.length + l.length
  | [], acc, p, h => by
    have e : p = acc := List.mem_singleton.mp h
    rw [e]; simp
  | c :: r, acc, p, h => by
    unfold sp1 at h
    split at h
    · rcases List.mem_cons.mp h with e | h
      · rw [e]; simp
      · have := sp1_len r [] p h
        simp at this ⊢; omega
    · have := sp1_len r _ p h
      simp at this ⊢; omega
theorem sp1_many {s : Nat} : ∀ (l acc : List Nat), (sp1 s acc l).length ≤ l.length + 1
  | [], acc => by unfold sp1; simp
  | c :: r, acc => by
    unfold sp1
    split
    · have := sp1_many (s := s) r []
      simp; omega
    · have := sp1_many (s := s) r (acc ++ [c])
      simp; omega
def dots (t : List Nat) : List (List Nat) := sp1 46 [] t
theorem split_dots (z : Str) : (Txt.split z ("." : Str)).map tl = dots (tl z) := by
  have e : tl ("." : Str) = [46] := by decide +kernel
  rw [split_spl z ("." : Str) (by rw [e]; simp) (kind_ok (by decide +kernel)), e, sp1_spl]; rfl
theorem fault_none {l : List Nat} (h : partFault l = none) : l ≠ [] ∧ l.all isDg = true ∧ l.length ≤ 3 ∧ ¬ (l.head? = some 48 ∧ l ≠ [48]) ∧ NumText.digitsVal l ≤ 255 := by
  unfold partFault at h
  split at h
  · cases h
  split at h
  · cases h
  split at h
  · cases h
  split at h
  · cases h
  split at h
  · cases h
  rename_i h1 h2 h3 h4 h5
  exact ⟨h1, by simpa using h2, by omega, h4, by omega⟩
def quadFault (t : List Nat) : Option Str := if (dots t).length = 4 then firstFault (dots t) else some ("parts" : Str)
def quadVal (ps : List (List Nat)) : Nat := ps.foldl (fun a p => a * 256 + NumText.digitsVal p) 0
theorem isDg_iff {c : Nat} : isDg c = true ↔ 48 ≤ c ∧ c ≤ 57 := by
  have e : digS.cps.toList = [48, 49, 50, 51, 52, 53, 54, 55, 56, 57] := by decide +kernel
  unfold isDg
  rw [decide_eq_true_iff, e]
  simp only [List.mem_cons, List.not_mem_nil, or_false]
  omega
theorem allDg {l : List Nat} (h : l.all isDg = true) : NumText.AllDigits l := fun c hc => isDg_iff.mp (List.all_eq_true.mp h c hc)
abbrev s_part_fault : Stmt := (top 10)
abbrev N_part_fault : List Str := [("part" : Str), ("sign" : Str)]
theorem sc_part_fault : FnScope N_part_fault [("part" : Str)] (defScope s_part_fault) := ⟨rfl, rfl, rfl, by decide +kernel, rfl, by decide +kernel, by decide +kernel⟩
def sp_part_fault (K : Frag) : Sp := fun vs H Q E => ∃ z : Str, vs = [.str z] ∧ z.length ≤ 100000 ∧ ∀ H', Same H H' → Q (optV (partFault (tl z))) H'
theorem ok_part_fault (T : Tx K mg) : FnG P w K mg base 1 "part_fault" (sp_part_fault K) := by
  refine ⟨fnr T.d_part_fault sc_part_fault (fun vs H Q E h => by obtain ⟨z, rfl, hz, q⟩ := h; rfl) (fun _ _ _ _ _ _ us hl => match us, hl with | [_], _ => rfl) (fun cdv A outer s H vs Q E hr h => ?_), T.kp_part_fault, T.g_part_fault⟩
  have nd := sc_part_fault.nd
  have hu := hu_of hr
  obtain ⟨z, rfl, hz, q⟩ := h
  refine ⟨_, PSs.nox (pss_cons (ps_if (pt_cmpR op_eq (pv 0) pe_str (nomark _)) (pss_one (ps_ret pe_str))
        pss_nil)
        (pss_cons (ps_if (pt_not (pt_val (pe_callB (c_all K rfl) (by rfl) T.f_all bb_all (pa_cons (pe_lc (own := [("sign", 1)]) rfl nd (pi_str (pv 0)) (blkOk_by (own := [("sign", 1)]) (N := N_part_fault) (sc := defScope s_part_fault) (by decide +kernel)) (fun _ _ _ _ _ => (pg_name (i := 1) nd rfl (Or.inl rfl))) (fun _ _ _ _ _ => pts_nil) (fun _ _ _ _ _ => (pe_cmpR op_in_sign (pv 1) (pe_gs T.s_DIGITS) (by rfl)))) pa_nil)))) (pss_one (ps_ret pe_str))
        pss_nil)
        (pss_cons (ps_if (pt_cmpR op_gt (pe_callB (c_lenv K) (by rfl) T.f_len bb_len (pa_cons (pv 0) pa_nil)) pe_int (nomark _)) (pss_one (ps_ret pe_str))
        pss_nil)
        (pss_cons (ps_if (PW.pt (pw_and (pt_cmpR op_eq (pe_ix ix_str (pv 0) pe_int (fun _ _ => rfl)) pe_str (nomark _)) (pw_and1 (pt_cmpR op_ne (pv 0) pe_str (nomark _))))) (pss_one (ps_ret pe_str))
        pss_nil)
        (pss_one (ps_ret (pe_ifExp (pt_cmpR op_gt (pe_callTy call_int_str (by rfl) T.f_int bb_int (pa_cons (pv 0) pa_nil)) pe_int (nomark _)) pe_str pe_non))))))), ?_⟩
  walk_at "rd"
  refine ite2 (fun h => ?_) (fun h => ?_)
  · have e : z = "" := by
      have := of_decide_eq_true h
      injection this
    have e2 : partFault (tl z) = some ("empty" : Str) := by rw [e]; rfl
    rw [e2] at q
    exact q H (Same.refl H)
  have hne : tl z ≠ [] := fun e => h (decide_eq_true (by rw [ext_tl (x := z) (y := "") (by rw [e]; rfl)]))
  walk_at "rd"
  intro D nD
  refine lc_mp (tl z) sgn (fun c => .bl (isDg c)) walk_str (size_tl z) (by rw [← len_tl]; exact Nat.lt_of_le_of_lt hz (by decide)) ystr nD (fun _ _ => trivial) ?_ ?_
  · intro c hc H1 s1 Qe k
    refine ⟨rfl, _, rfl, _, _, rfl, rfl, k H1 (Same.refl _)⟩
  intro H1 s1 h1
  refine ⟨D, (tl z).map isDg, rfl, ?_, ?_⟩
  · have e : ((tl z).map isDg).map V.bl = (tl z).map (fun c => V.bl (isDg c)) := by rw [List.map_map]; rfl
    rw [e]; exact SqL.of h1
  have ea : ((tl z).map isDg).all id = (tl z).all isDg := by rw [List.all_map]; rfl
  walk_at "rd"
  rw [ea]
  cases hd : (tl z).all isDg with
  | false =>
    refine iteT ?_
    have e2 : partFault (tl z) = some ("digits" : Str) := by unfold partFault; rw [if_neg hne, if_pos hd]
    rw [e2] at q
    exact q H1 s1
  | true =>
  refine iteF ?_
  walk_at "rd"
  refine ⟨_, z.length, rfl, ⟨Nat.le_trans hz (by decide), rfl⟩, ?_⟩
  walk_at "rd"
  have hlen := len_tl z
  refine ite2 (fun h3 => ?_) (fun h3 => ?_)
  · have h4 : (3 : Int) < z.length := of_decide_eq_true h3
    have e2 : partFault (tl z) = some ("long" : Str) := by unfold partFault; rw [if_neg hne, if_neg (by rw [hd]; simp), if_pos (by omega)]
    rw [e2] at q
    exact q H1 s1
  have h4 : ¬ (3 : Int) < z.length := fun w => h3 (decide_eq_true w)
  obtain ⟨c0, r, hcr⟩ : ∃ c0 r, tl z = c0 :: r := by
    cases e : tl z with
    | nil => exact absurd e hne
    | cons c r => exact ⟨c, r, rfl⟩
  walk_at "rd"
  refine ⟨_, _, c0, rfl, rfl, Nat.le_trans hz (by decide), atI_nat (j := 0) (by show (tl z)[0]? = _; rw [hcr]; rfl), ?_⟩
  walk_at "rd"
  refine ite2 (fun h5 => ?_) (fun h5 => ?_)
  · have c48 : c0 = 48 := by
      have e := of_decide_eq_true h5
      injection e with e
      injection e with e
      have e2 : [c0] = [48] := congrArg Array.toList e
      injection e2
    walk_at "rd"
    refine ite2 (fun h6 => ?_) (fun h6 => ?_)
    · have ne0 : tl z ≠ [48] := fun e => by
        have e3 : z = ("0" : Str) := ext_tl (by rw [e]; rfl)
        rw [e3] at h6
        simp at h6
      have e2 : partFault (tl z) = some ("zero" : Str) := by unfold partFault; rw [if_neg hne, if_neg (by rw [hd]; simp), if_neg (by omega), if_pos ⟨by rw [hcr, c48]; rfl, ne0⟩]
      rw [e2] at q
      exact q H1 s1
    · have hh : ¬ ((tl z).head? = some 48 ∧ tl z ≠ [48]) := fun w => h6 (by
        have ne : ¬ V.str z = V.str ("0" : Str) := fun e => by
          injection e with e
          exact w.2 (by rw [e]; rfl)
        rw [decide_eq_false ne]; rfl)
      walk_at "rd"
      refine ⟨_, _, rfl, intText_digits (allDg hd) hne (by omega), by omega, ?_⟩
      walk_at "rd"
      refine ite2 (fun h7 => ?_) (fun h7 => ?_)
      · have h8 : (255 : Int) < ((NumText.digitsVal (tl z) : Nat) : Int) := of_decide_eq_true h7
        have e2 : partFault (tl z) = some ("large" : Str) := by unfold partFault; rw [if_neg hne, if_neg (by rw [hd]; simp), if_neg (by omega), if_neg hh, if_pos (by omega)]
        rw [e2] at q
        exact q H1 s1
      · have h8 : ¬ (255 : Int) < ((NumText.digitsVal (tl z) : Nat) : Int) := fun w => h7 (decide_eq_true w)
        have e2 : partFault (tl z) = none := by unfold partFault; rw [if_neg hne, if_neg (by rw [hd]; simp), if_neg (by omega), if_neg hh, if_neg (by omega)]
        rw [e2] at q
        exact q H1 s1
  · have hh : ¬ ((tl z).head? = some 48 ∧ tl z ≠ [48]) := fun w => h5 (by
      have e : c0 = 48 := by
        have := w.1
        rw [hcr] at this
        injection this
      rw [e]; decide)
    refine iteF ?_
    walk_at "rd"
    refine ⟨_, _, rfl, intText_digits (allDg hd) hne (by omega), by omega, ?_⟩
    walk_at "rd"
    refine ite2 (fun h7 => ?_) (fun h7 => ?_)
    · have h8 : (255 : Int) < ((NumText.digitsVal (tl z) : Nat) : Int) := of_decide_eq_true h7
      have e2 : partFault (tl z) = some ("large" : Str) := by unfold partFault; rw [if_neg hne, if_neg (by rw [hd]; simp), if_neg (by omega), if_neg hh, if_pos (by omega)]
      rw [e2] at q
      exact q H1 s1
    · have h8 : ¬ (255 : Int) < ((NumText.digitsVal (tl z) : Nat) : Int) := fun w => h7 (decide_eq_true w)
      have e2 : partFault (tl z) = none := by unfold partFault; rw [if_neg hne, if_neg (by rw [hd]; simp), if_neg (by omega), if_neg hh, if_neg (by omega)]
      rw [e2] at q
      exact q H1 s1
abbrev s_quad_fault : Stmt := (top 11)
abbrev N_quad_fault : List Str := [("text" : Str), ("parts" : Str), ("part" : Str), ("why" : Str)]
theorem sc_quad_fault : FnScope N_quad_fault [("text" : Str)] (defScope s_quad_fault) := ⟨rfl, rfl, rfl, by decide +kernel, rfl, by decide +kernel, by decide +kernel⟩
def sp_quad_fault (K : Frag) : Sp := fun vs H Q E => ∃ z : Str, vs = [.str z] ∧ z.length ≤ 100000 ∧ ∀ H', Same H H' → Q (optV (quadFault (tl z))) H'
theorem ok_quad_fault (T : Tx K mg) : FnG P w K mg base 2 "quad_fault" (sp_quad_fault K) := by
  have F_part_fault := ok_part_fault (P := P) (w := w) (base := base) T
  refine ⟨fnr T.d_quad_fault sc_quad_fault (fun vs H Q E h => by obtain ⟨z, rfl, hz, q⟩ := h; rfl) (fun _ _ _ _ _ _ us hl => match us, hl with | [_], _ => rfl) (fun cdv A outer s H vs Q E hr h => ?_), T.kp_quad_fault, T.g_quad_fault⟩
  have nd := sc_quad_fault.nd
  have hu := hu_of hr
  obtain ⟨z, rfl, hz, q⟩ := h
  refine ⟨_, PSs.nox (pss_cons (ps_set (i := 1) nd rfl (Or.inl rfl) (pe_m1 PySem.F.slot_str_split PySem.F.type_str_split m_split (pv 0) pe_str))
        (pss_cons (ps_if (pt_cmpR op_ne (pe_callB (c_lenq K) (by rfl) T.f_len bb_len (pa_cons (pv 1) pa_nil)) pe_int (nomark _)) (pss_one (ps_ret pe_str))
        pss_nil)
        (pss_cons (ps_for PassesOwn.never rfl (i_list K (pv 1)) (pg_name (i := 2) nd rfl (Or.inl rfl))
        (pss_one (ps_ifW (ptw_cmp op_notN (pew_named (i := 3) nd rfl (Or.inl rfl) (pew_of (pe_f F_part_fault (hr.mono (by decide)) passL (pa_cons (pv 2) pa_nil)))) pe_non (nomark _)) (pss_one (ps_ret (pv 3))) pss_nil)))
        (pss_one (ps_ret pe_non))))), ?_⟩
  have hlen := len_tl z
  walk_at "rd"
  refine ⟨⟨_, rfl⟩, _, _, rfl, rfl, by decide, Nat.le_trans (Nat.add_le_add_right hz 2) (by decide), fun p H1 s1 np hp => ?_⟩
  have hsp := split_dots z
  have hln : (Txt.split z ("." : Str)).length = (dots (tl z)).length := by rw [← hsp, List.length_map]
  walk_at "rd"
  refine ⟨_, _, rfl, Or.inl (SqL.of hp), ?_⟩
  walk_at "rd"
  refine ite2 (fun h => ?_) (fun h => ?_)
  · have h4 : (dots (tl z)).length ≠ 4 := fun e => by
      rw [List.length_map, hln, e] at h
      simp at h
    have e2 : quadFault (tl z) = some ("parts" : Str) := by unfold quadFault; rw [if_neg h4]
    rw [e2] at q
    exact q _ s1
  have h4 : (dots (tl z)).length = 4 := by
    rw [List.length_map, hln] at h
    have h2 : V.int ((dots (tl z)).length : Int) = V.int 4 := by simpa using h
    injection h2 with h2
    omega
  have eq : quadFault (tl z) = firstFault (dots (tl z)) := by unfold quadFault; rw [if_pos h4]
  rw [eq] at q
  walk_at "rd"
  refine ⟨⟨_, SqL.of hp⟩, for_list (K := K) (a := p) (xs := (Txt.split z ("." : Str)).map V.str) (fun i σ H2 => ∃ v2 v3 : Option V, σ = [some (.str z), some (.ref p), v2, v3] ∧ Same H1 H2 ∧ firstFault (dots (tl z)) = firstFault ((dots (tl z)).drop i))
    ⟨none, none, rfl, Same.refl _, rfl⟩ (fun i σ H2 _ ⟨_, _, _, s2, _⟩ => s2.seq (SqL.of hp)) ?_ ?_⟩
  · rintro i y σ H2 hi ⟨v2, v3, rfl, s2, ff⟩
    rw [List.getElem?_map] at hi
    cases hx : (Txt.split z ("." : Str))[i]? with
    | none => rw [hx] at hi; cases hi
    | some x =>
    rw [hx] at hi
    cases hi
    have hd : (dots (tl z))[i]? = some (tl x) := by rw [← hsp, List.getElem?_map, hx]; rfl
    have hxl : x.length ≤ 100000 := by
      have hm : tl x ∈ dots (tl z) := List.mem_of_getElem? hd
      have := sp1_len (tl z) [] (tl x) hm
      rw [len_tl x]
      have e0 : ([] : List Nat).length = 0 := rfl
      omega
    obtain ⟨hi2, hd2⟩ := List.getElem?_eq_some_iff.mp hd
    have hdrop : (dots (tl z)).drop i = tl x :: (dots (tl z)).drop (i + 1) := by rw [← hd2]; exact List.drop_eq_getElem_cons hi2
    walk_at "rd"
    refine ⟨hxl, fun H3 s3 => ?_⟩
    cases hf : partFault (tl x) with
    | some why =>
      walk_at "rd"
      have e : firstFault (dots (tl z)) = some why := by rw [ff, hdrop]; unfold firstFault; rw [hf]
      rw [e] at q
      exact q H3 (s1.trans (s2.trans s3))
    | none =>
      walk_at "rd"
      refine ⟨_, _, rfl, s2.trans s3, ?_⟩
      rw [ff, hdrop]
      show (match partFault (tl x) with | some w => some w | none => firstFault ((dots (tl z)).drop (i + 1))) = _
      rw [hf]
  · rintro σ H2 ⟨v2, v3, rfl, s2, ff⟩
    rw [List.length_map, hln, List.drop_length] at ff
    rw [ff] at q
    exact q H2 (s1.trans s2)
theorem first_none : ∀ {ps : List (List Nat)}, firstFault ps = none → ∀ p ∈ ps, partFault p = none
  | [], _, p, h => by cases h
  | x :: r, e, p, h => by
    unfold firstFault at e
    cases hf : partFault x with
    | some w => rw [hf] at e; cases e
    | none =>
      rw [hf] at e
      rcases List.mem_cons.mp h with q | q
      · rw [q]; exact hf
      · exact first_none e p q
theorem first_of : ∀ {ps : List (List Nat)}, (∀ p ∈ ps, partFault p = none) → firstFault ps = none
  | [], _ => rfl
  | x :: r, h => by
    unfold firstFault
    rw [h x (List.mem_cons_self ..)]
    exact first_of fun p hp => h p (List.mem_cons_of_mem _ hp)
theorem quad_none {t : List Nat} (h : quadFault t = none) : (dots t).length = 4 ∧ ∀ p ∈ dots t, partFault p = none := by
  unfold quadFault at h
  split at h
  · rename_i h4
    exact ⟨h4, first_none h⟩
  · cases h
/-- a number as a text -/
def numS (i : Int) : Str := Str.ofString (toString i)
def quadParts (n : Int) : List Str := [24, 16, 8, 0].map fun s : Nat => numS (n / 2 ^ s % 256)
theorem numS_tl {i : Int} (h : 0 ≤ i) : tl (numS i) = numL i.toNat := by
  obtain ⟨k, rfl⟩ := Int.eq_ofNat_of_zero_le h
  unfold numS
  rw [tl_num]; rfl
theorem numS_len {i : Int} (h0 : 0 ≤ i) (h1 : i < 256) : (numS i).length ≤ 3 := by
  rw [len_tl, numS_tl h0]
  exact numL_len (by decide) (by omega)
theorem part_b (n : Int) (s : Nat) : 0 ≤ n / 2 ^ s % 256 ∧ n / 2 ^ s % 256 < 256 := ⟨Int.emod_nonneg _ (by decide), Int.emod_lt_of_pos _ (by decide)⟩
theorem quadParts_sz {n : Int} (h : 0 ≤ n) : ((quadParts n).map fun x => x.length).sum + (quadParts n).length * ("." : Str).length ≤ 16777216 := by
  have a := fun s => numS_len (part_b n s).1 (part_b n s).2
  have l1 : ("." : Str).length = 1 := by decide +kernel
  rw [l1]
  unfold quadParts
  simp only [List.map_cons, List.map_nil, List.sum_cons, List.sum_nil, List.length_cons, List.length_nil]
  have a1 := a 24
  have a2 := a 16
  have a3 := a 8
  have a4 := a 0
  omega
def quadS (n : Int) : Str := Txt.join ("." : Str) (quadParts n)
theorem joinL_len (S : List Nat) : ∀ ps : List (List Nat), (joinL S ps).length ≤ (ps.map List.length).sum + ps.length * S.length
  | [] => by simp [joinL]
  | [p] => by simp [joinL]
  | p :: q :: r => by
    have ih := joinL_len S (q :: r)
    have e : joinL S (p :: q :: r) = p ++ (S ++ joinL S (q :: r)) := rfl
    rw [e]
    simp only [List.length_append, List.map_cons, List.sum_cons, List.length_cons] at ih ⊢
    rw [Nat.succ_mul]
    omega
theorem quadS_tl (n : Int) : tl (quadS n) = joinL [46] ((quadParts n).map tl) := by
  unfold quadS
  rw [join_eq, tl_join]
  have e : tl ("." : Str) = [46] := by decide +kernel
  rw [e]
theorem joinL_mem {S : List Nat} {c : Nat} : ∀ {ps : List (List Nat)}, c ∈ joinL S ps → c ∈ S ∨ ∃ p ∈ ps, c ∈ p
  | [], h => by cases h
  | [p], h => .inr ⟨p, List.mem_singleton.mpr rfl, h⟩
  | p :: q :: r, h => by
    have e : joinL S (p :: q :: r) = p ++ (S ++ joinL S (q :: r)) := rfl
    rw [e] at h
    rcases List.mem_append.mp h with h | h
    · exact .inr ⟨p, List.mem_cons_self .., h⟩
    · rcases List.mem_append.mp h with h | h
      · exact .inl h
      · rcases joinL_mem h with h | ⟨x, hx, h⟩
        · exact .inl h
        · exact .inr ⟨x, List.mem_cons_of_mem _ hx, h⟩
theorem strOk_of {x : Str} (h : ∀ c ∈ tl x, c < 1114112) : PyData.strOk x = true := by
  unfold PyData.strOk
  rw [← Array.all_toList, List.all_eq_true]
  exact fun c hc => decide_eq_true (h c hc)
theorem numL_lt256 {n c : Nat} (h : c ∈ numL n) : c < 58 := by
  have := numL_digits n c h
  omega
theorem quadS_ok {n : Int} (h : 0 ≤ n) : PyData.strOk (quadS n) = true := by
  refine strOk_of fun c hc => ?_
  rw [quadS_tl] at hc
  rcases joinL_mem hc with hc | ⟨p, hp, hc⟩
  · rw [List.mem_singleton.mp hc]; decide
  · obtain ⟨x, hx, rfl⟩ := List.mem_map.mp hp
    obtain ⟨s, _, rfl⟩ := List.mem_map.mp hx
    rw [numS_tl (part_b n s).1] at hc
    have := numL_lt256 hc
    omega
theorem quadS_len {n : Int} (h : 0 ≤ n) : (quadS n).length ≤ 16 := by
  rw [len_tl, quadS_tl]
  refine Nat.le_trans (joinL_len _ _) ?_
  have a := fun s => numS_len (part_b n s).1 (part_b n s).2
  unfold quadParts
  simp only [List.map_cons, List.map_nil, List.sum_cons, List.sum_nil, List.length_cons, List.length_nil, ← len_tl]
  have a1 := a 24
  have a2 := a 16
  have a3 := a 8
  have a4 := a 0
  omega
theorem quadS_sz {n : Int} (h : 0 ≤ n) : (quadS n).length ≤ sizeLine := Nat.le_trans (quadS_len h) (by decide)
abbrev s_read_quad : Stmt := (top 12)
abbrev N_read_quad : List Str := [("text" : Str), ("why" : Str), ("found" : Str), ("part" : Str)]
theorem sc_read_quad : FnScope N_read_quad [("text" : Str)] (defScope s_read_quad) := ⟨rfl, rfl, rfl, by decide +kernel, rfl, by decide +kernel, by decide +kernel⟩
def sp_read_quad (K : Frag) : Sp := fun vs H Q E => ∃ z : Str, vs = [.str z] ∧ z.length ≤ 100000 ∧ quadFault (tl z) = none ∧ ∀ H', Same H H' → Q (.int (quadVal (dots (tl z)))) H'
theorem ok_read_quad (T : Tx K mg) : FnG P w K mg base 3 "read_quad" (sp_read_quad K) := by
  have F_quad_fault := ok_quad_fault (P := P) (w := w) (base := base) T
  refine ⟨fnr T.d_read_quad sc_read_quad (fun vs H Q E h => by obtain ⟨z, rfl, hz, hq, q⟩ := h; rfl) (fun _ _ _ _ _ _ us hl => match us, hl with | [_], _ => rfl) (fun cdv A outer s H vs Q E hr h => ?_), T.kp_read_quad, T.g_read_quad⟩
  have nd := sc_read_quad.nd
  have hu := hu_of hr
  obtain ⟨z, rfl, hz, hq, q⟩ := h
  refine ⟨_, PSs.nox (pss_cons (ps_set (i := 1) nd rfl (Or.inl rfl) (pe_f F_quad_fault (hr.mono (by decide)) passL (pa_cons (pv 0) pa_nil)))
        (pss_cons (ps_if (pt_cmpR op_notN (pv 1) pe_non (nomark _)) (pss_one ps_never)
        pss_nil)
        (pss_cons (ps_set (i := 2) nd rfl (Or.inl rfl) pe_int)
        (pss_cons (ps_for PassesOwn.never rfl (i_list K (pe_m1 PySem.F.slot_str_split PySem.F.type_str_split m_split (pv 0) pe_str)) (pg_name (i := 3) nd rfl (Or.inl rfl))
        (pss_one (ps_set (i := 2) nd rfl (Or.inl rfl) (pe_op op_add (pe_op op_mul (pv 2) pe_int) (pe_callTy call_int_str (by rfl) T.f_int bb_int (pa_cons (pv 3) pa_nil))))))
        (pss_one (ps_ret (pv 2))))))), ?_⟩
  obtain ⟨hd4, hps⟩ := quad_none hq
  walk_at "rd"
  refine ⟨hz, fun H1 s1 => ?_⟩
  rw [hq]
  walk_at "rd"
  refine ⟨⟨_, rfl⟩, _, _, rfl, rfl, by decide, Nat.le_trans (Nat.add_le_add_right hz 2) (by decide), fun p H1' s1' np hp => ?_⟩
  have hsp := split_dots z
  have hln : (Txt.split z ("." : Str)).length = (dots (tl z)).length := by rw [← hsp, List.length_map]
  have s2 : Same H H1' := s1.trans s1'
  refine ⟨_, rfl, ⟨_, SqL.of hp⟩, for_list (K := K) (a := p) (xs := (Txt.split z ("." : Str)).map V.str) (fun i σ H2 => ∃ v3 : Option V, σ = [some (.str z), some .non, some (.int (quadVal ((dots (tl z)).take i))), v3] ∧ Same H1' H2)
    ⟨none, rfl, Same.refl _⟩ (fun i σ H2 _ ⟨_, _, s3⟩ => s3.seq (SqL.of hp)) ?_ ?_⟩
  · rintro i y σ H2 hi ⟨v3, rfl, s3⟩
    rw [List.getElem?_map] at hi
    cases hx : (Txt.split z ("." : Str))[i]? with
    | none => rw [hx] at hi; cases hi
    | some x =>
    rw [hx] at hi
    cases hi
    have hd : (dots (tl z))[i]? = some (tl x) := by rw [← hsp, List.getElem?_map, hx]; rfl
    obtain ⟨f1, f2, f3, f4, f5⟩ := fault_none (hps _ (List.mem_of_getElem? hd))
    have hxl := len_tl x
    walk_at "rd"
    refine ⟨_, _, rfl, intText_digits (allDg f2) f1 (by omega), by omega, ?_⟩
    walk_at "rd"
    refine ⟨some (V.str x), ?_, s3⟩
    rw [take_succ' hd]
    unfold quadVal
    rw [List.foldl_append]
    show _ = [_, _, some (V.int (((List.foldl (fun a p => a * 256 + NumText.digitsVal p) 0 (List.take i (dots (tl z)))) * 256 + NumText.digitsVal (tl x) : Nat) : Int)), _]
    rw [Int.natCast_add, Int.natCast_mul]; rfl
  · rintro σ H2 ⟨v3, rfl, s3⟩
    refine ⟨_, rfl, ?_⟩
    rw [List.length_map, hln, List.take_length]
    exact q H2 (s2.trans s3)
abbrev s_quad_parts : Stmt := (top 13)
abbrev N_quad_parts : List Str := [("number" : Str), ("shift" : Str)]
theorem sc_quad_parts : FnScope N_quad_parts [("number" : Str)] (defScope s_quad_parts) := ⟨rfl, rfl, rfl, by decide +kernel, rfl, by decide +kernel, by decide +kernel⟩
def sp_quad_parts (K : Frag) : Sp := fun vs H Q E => ∃ n : Int, vs = [.int n] ∧ 0 ≤ n ∧ n < 2 ^ 130 ∧ ∀ (p : Addr) (H' : Hp), Same H H' → H p = none → H' p = some (.lst ((quadParts n).map V.str)) → Q (.ref p) H'
theorem ok_quad_parts (T : Tx K mg) : FnG P w K mg base 1 "quad_parts" (sp_quad_parts K) := by
  refine ⟨fnr T.d_quad_parts sc_quad_parts (fun vs H Q E h => by obtain ⟨n, rfl, h0, h1, q⟩ := h; rfl) (fun _ _ _ _ _ _ us hl => match us, hl with | [_], _ => rfl) (fun cdv A outer s H vs Q E hr h => ?_), T.kp_quad_parts, T.g_quad_parts⟩
  have nd := sc_quad_parts.nd
  have hu := hu_of hr
  obtain ⟨n, rfl, h0, h1, q⟩ := h
  refine ⟨_, PSs.nox (pss_one (ps_ret (pe_lc (own := [("shift", 1)]) rfl nd (i_tup K (p_tup (pa_cons pe_int (pa_cons pe_int (pa_cons pe_int (pa_cons pe_int pa_nil)))))) (blkOk_by (own := [("shift", 1)]) (N := N_quad_parts) (sc := defScope s_quad_parts) (by decide +kernel)) (fun _ _ _ _ _ => (pg_name (i := 1) nd rfl (Or.inl rfl))) (fun _ _ _ _ _ => pts_nil) (fun _ _ _ _ _ => (pe_joined1 (pe_fmt (pe_op op_and (pe_op op_shr (pv 0) (pv 1)) pe_int))))))), ?_⟩
  refine ⟨lz, fun p H0 s0 np hp => ?_⟩
  refine ⟨p, rfl, ⟨_, SqT.of hp⟩, fun D nD => ?_⟩
  refine lc_mp ([24, 16, 8, 0] : List Nat) (fun s : Nat => V.int (s : Int)) (fun s : Nat => V.str (numS (n / 2 ^ s % 256))) (walk_tup (K := K) (a := p) (xs := ([24, 16, 8, 0] : List Nat).map fun s : Nat => V.int (s : Int))) rfl (by decide) yat_map nD (fun H' s' => SqT.of (s' _ _ hp)) ?_ ?_
  · intro c hc H1 s1 Qe k
    refine ⟨rfl, ?_⟩
    walk_at "rd"
    have nn : 0 ≤ n / 2 ^ ((c : Int)).toNat := Int.ediv_nonneg h0 (by have := pow_pos' ((c : Int)).toNat; omega)
    have ea := and255 nn
    refine Or.inr ⟨_, rfl, ?_, ?_⟩
    · rw [ea]; exact log_small (by omega) (by omega)
    · rw [ea]; exact k H1 (Same.refl _)
  · intro H1 s1 h1
    refine q D H1 (s0.trans s1) (s0.free nD) ?_
    rw [h1]; rfl
abbrev s_quad_text : Stmt := (top 14)
abbrev N_quad_text : List Str := [("number" : Str)]
theorem sc_quad_text : FnScope N_quad_text [("number" : Str)] (defScope s_quad_text) := ⟨rfl, rfl, rfl, by decide +kernel, rfl, by decide +kernel, by decide +kernel⟩
def sp_quad_text (K : Frag) : Sp := fun vs H Q E => ∃ n : Int, vs = [.int n] ∧ 0 ≤ n ∧ n < 2 ^ 130 ∧ ∀ H', Same H H' → Q (.str (quadS n)) H'
theorem ok_quad_text (T : Tx K mg) : FnG P w K mg base 2 "quad_text" (sp_quad_text K) := by
  have F_quad_parts := ok_quad_parts (P := P) (w := w) (base := base) T
  refine ⟨fnr T.d_quad_text sc_quad_text (fun vs H Q E h => by obtain ⟨n, rfl, h0, h1, q⟩ := h; rfl) (fun _ _ _ _ _ _ us hl => match us, hl with | [_], _ => rfl) (fun cdv A outer s H vs Q E hr h => ?_), T.kp_quad_text, T.g_quad_text⟩
  have nd := sc_quad_text.nd
  have hu := hu_of hr
  obtain ⟨n, rfl, h0, h1, q⟩ := h
  refine ⟨_, PSs.nox (pss_one (ps_ret (pe_join pe_str (pe_f F_quad_parts (hr.mono (by decide)) passL (pa_cons (pv 0) pa_nil))))), ?_⟩
  refine ⟨⟨_, rfl⟩, ?_⟩
  walk_at "rd"
  refine ⟨h0, h1, fun p H1 s1 np hp => ?_⟩
  refine ⟨_, _, _, rfl, rfl, Or.inl (SqL.of hp), ?_, ?_⟩
  · exact quadParts_sz h0
  exact q H1 s1
/-- a in b, of texts -/
def inS (a b : Str) : Bool := !(Builtin.Str.occurrences b a 0 b.length 1).isEmpty
def hexD : Str := "0123456789abcdef"
def okSign (c : Nat) : Bool := inS (Txt.lower ⟨#[c]⟩) hexD || decide (c ∈ (":." : Str).cps.toList)
def qPlace (z : Str) : Int := Txt.rfind z (":" : Str) + 1
def wrongQuad (z : Str) : Bool := decide (46 ∈ z.cps.toList) && (decide (46 ∈ (cutS z none (some (qPlace z))).cps.toList) || (quadFault (tl (cutS z (some (qPlace z)) none))).isSome)
def wrongGaps (z : Str) : Bool := inS (":::" : Str) z || decide (1 < Txt.count z ("::" : Str))
def wrongEnds (z : Str) : Bool := (Txt.startswith z (":" : Str) && !Txt.startswith z ("::" : Str)) || (Txt.endswith z (":" : Str) && !Txt.endswith z ("::" : Str))
def hexGroups (z : Str) : List Str := if z = ("" : Str) then [] else Txt.split z (":" : Str)
structure P6 where
  ahead : List Str
  behind : Option (List Str)
  quad : Str
def quadOf (z : Str) : Str := if 46 ∈ z.cps.toList then cutS z (some (qPlace z)) none else ("" : Str)
def plainOf (z : Str) : Str := if quadOf z = ("" : Str) then z else cutS z none (some (qPlace z))
def partsOf (z : Str) : P6 :=
  if inS ("::" : Str) (plainOf z) = true then ⟨hexGroups (Txt.partition (plainOf z) ("::" : Str)).1, some (hexGroups (Txt.rstripChars (Txt.partition (plainOf z) ("::" : Str)).2.2 (":" : Str))), quadOf z⟩
  else ⟨hexGroups (Txt.rstripChars (plainOf z) (":" : Str)), none, quadOf z⟩
def P6.many (p : P6) : Int := p.ahead.length + (p.behind.getD []).length + 2 * (if p.quad = ("" : Str) then 0 else 1)
def P6.wrong (p : P6) : Bool := match p.behind with
  | none => !decide (V.int p.many = V.int 8)
  | some _ => decide (7 < p.many)
/-- None, or a list of texts -/
def OptL (H : Hp) (b : V) : Option (List Str) → Prop
  | none => b = .non
  | some bs => ∃ l2, b = .ref l2 ∧ H l2 = some (.lst (bs.map V.str))
theorem OptL.same {H H' : Hp} {b : V} {o : Option (List Str)} (h : OptL H b o) (s : Same H H') : OptL H' b o := by
  cases o with
  | none => exact h
  | some bs =>
    obtain ⟨l2, e, h2⟩ := h
    exact ⟨l2, e, s _ _ h2⟩
/-- b or [] -/
theorem or_list {K : Frag} {H : Hp} {b : V} {o : Option (List Str)} {σ : L2.St} {Q : VK} (hb : OptL H b o) (h : ∀ l H', Same H H' → H' l = some (.lst ((o.getD []).map V.str)) → Q (.ref l) H') : ∃ k, TruV K b H k ∧ if k = true then Q b H else tLstA tNil σ H Q := by
  cases o with
  | none =>
    cases hb
    exact ⟨false, rfl, iteF ⟨Nat.zero_le _, fun p H' s _ hp => h p H' s hp⟩⟩
  | some bs =>
    obtain ⟨l2, rfl, h2⟩ := hb
    cases bs with
    | nil => exact ⟨false, Or.inl ⟨_, SqL.of h2, rfl⟩, iteF ⟨Nat.zero_le _, fun p H' s _ hp => h p H' s hp⟩⟩
    | cons b0 bs => exact ⟨true, Or.inl ⟨_, SqL.of h2, rfl⟩, iteT (h l2 H (Same.refl _) h2)⟩
theorem opt_isN {H : Hp} {b : V} {o : Option (List Str)} (h : OptL H b o) : decide (b = V.non) = o.isNone := by
  cases o with
  | none => cases h; rfl
  | some bs => obtain ⟨l2, rfl, h2⟩ := h; rfl
/-- the pieces stand in the heap -/
def P6At (H : Hp) (t : Addr) (p : P6) : Prop := ∃ (l1 : Addr) (b : V), H t = some (.tup [.ref l1, b, .str p.quad]) ∧ H l1 = some (.lst (p.ahead.map V.str)) ∧ OptL H b p.behind
theorem cutS_len (z : Str) (lo hi : Option Int) : (cutS z lo hi).length ≤ z.length := by
  rw [len_tl, len_tl]
  show (((tl z).drop _).take _).length ≤ _
  rw [List.length_take, List.length_drop]; omega
theorem sizeL {n : Nat} (h : n ≤ 100000) : n ≤ sizeLine := Nat.le_trans h (by decide)
theorem par_len {S : List Nat} : ∀ (l acc a b : List Nat), par S acc l = some (a, b) → a.length ≤ acc.length + l.length ∧ b.length ≤ l.length
  | [], acc, a, b, h => by cases h
  | c :: r, acc, a, b, h => by
    unfold par at h
    split at h
    · injection h with h
      injection h with h1 h2
      rw [← h1, ← h2, List.length_drop]
      exact ⟨by omega, by omega⟩
    · have := par_len r _ a b h
      rw [List.length_append] at this
      simp only [List.length_cons, List.length_nil] at this ⊢
      omega
theorem part_len (x y : Str) (hy : tl y ≠ []) : (Txt.partition x y).1.length ≤ x.length ∧ (Txt.partition x y).2.2.length ≤ x.length := by
  rw [partition_par x y hy]
  cases h : par (tl y) [] (tl x) with
  | none => exact ⟨Nat.le_refl _, Nat.zero_le _⟩
  | some ab =>
    obtain ⟨a, b⟩ := ab
    have := par_len _ _ _ _ h
    have e1 := len_tl x
    rw [List.length_nil] at this
    refine ⟨?_, ?_⟩
    · show (⟨a.toArray⟩ : Str).length ≤ _
      rw [len_tl]; show a.length ≤ _; omega
    · show (⟨b.toArray⟩ : Str).length ≤ _
      rw [len_tl]; show b.length ≤ _; omega
theorem split_colon (z : Str) : (Txt.split z (":" : Str)).map tl = sp1 58 [] (tl z) := by
  have e : tl (":" : Str) = [58] := by decide +kernel
  rw [split_spl z (":" : Str) (by rw [e]; simp) (kind_ok (by decide +kernel)), e, sp1_spl]
theorem hexG_many (z : Str) : (hexGroups z).length ≤ z.length + 1 := by
  unfold hexGroups
  split
  · exact Nat.zero_le _
  · have := sp1_many (s := 58) (tl z) []
    rw [← split_colon, List.length_map, ← len_tl] at this
    exact this
theorem hexG_len (z : Str) : ∀ g ∈ hexGroups z, g.length ≤ z.length := by
  intro g hg
  unfold hexGroups at hg
  split at hg
  · cases hg
  · have h2 : tl g ∈ sp1 58 [] (tl z) := by rw [← split_colon]; exact List.mem_map.mpr ⟨g, hg, rfl⟩
    have := sp1_len _ _ _ h2
    rw [List.length_nil, ← len_tl, ← len_tl] at this
    omega
theorem plain_len (z : Str) : (plainOf z).length ≤ z.length := by
  unfold plainOf
  split
  · exact Nat.le_refl _
  · exact cutS_len ..
theorem parts_b (z : Str) : (partsOf z).ahead.length ≤ z.length + 1 ∧ ((partsOf z).behind.getD []).length ≤ z.length + 1 ∧ ∀ g ∈ (partsOf z).ahead ++ (partsOf z).behind.getD [], g.length ≤ z.length := by
  have pl := part_len (plainOf z) ("::" : Str) (by decide +kernel)
  have pz := plain_len z
  unfold partsOf
  split
  · have r := len_rstripChars (Txt.partition (plainOf z) ("::" : Str)).2.2 (":" : Str)
    have m1 := hexG_many (Txt.partition (plainOf z) ("::" : Str)).1
    have m2 := hexG_many (Txt.rstripChars (Txt.partition (plainOf z) ("::" : Str)).2.2 (":" : Str))
    refine ⟨by show (hexGroups _).length ≤ _; omega, by show (hexGroups _).length ≤ _; omega, fa_app (fun g hg => ?_) (fun g hg => ?_)⟩
    · have := hexG_len _ g hg
      omega
    · have := hexG_len _ g hg
      omega
  · have r := len_rstripChars (plainOf z) (":" : Str)
    have m1 := hexG_many (Txt.rstripChars (plainOf z) (":" : Str))
    refine ⟨by show (hexGroups _).length ≤ _; omega, Nat.zero_le _, fa_app (fun g hg => ?_) fa_nil⟩
    have := hexG_len _ g hg
    omega
theorem sizeM {n : Nat} (h : n ≤ 1000000) : n < sizeLine := Nat.lt_of_le_of_lt h (by decide)
abbrev natV (n : Nat) : V := V.int n
theorem rep_flat : ∀ k : Nat, (List.replicate k [V.int 0]).flatten = (List.replicate k 0).map natV
  | 0 => rfl
  | k + 1 => by
    rw [List.replicate_succ, List.flatten_cons, rep_flat k]; rfl
theorem quad_len (z : Str) : (quadOf z).length ≤ z.length := by
  unfold quadOf
  split
  · exact cutS_len ..
  · exact Nat.zero_le _
theorem parts_quad (z : Str) : (partsOf z).quad = quadOf z := by
  unfold partsOf
  split <;> rfl
def g6Fault (z : Str) : Option Str :=
  if (tl z).all okSign = false then some ("digits" : Str) else if wrongQuad z = true then some ("quad" : Str) else if wrongGaps z = true then some ("gaps" : Str) else if wrongEnds z = true then some ("ends" : Str)
  else if ((partsOf z).ahead ++ (partsOf z).behind.getD []).all (fun g => decide ((g.length : Int) < 5)) = false then some ("long" : Str) else if (partsOf z).wrong = true then some ("groups" : Str) else none
def hx (c : Nat) : Nat := hexD.cps.toList.idxOf c
def hexNum (z : Str) : Nat := (tl (Txt.lower z)).foldl (fun a c => a * 16 + hx c) 0
def hexOk (z : Str) : Prop := ∀ c ∈ tl (Txt.lower z), c ∈ hexD.cps.toList
theorem hx_at : ∀ c ∈ hexD.cps.toList, Txt.index0 hexD ⟨#[c]⟩ = some (hx c) := by decide +kernel
def qMore (q : Str) : List Nat := if q = ("" : Str) then [] else [quadVal (dots (tl q)) / 65536, quadVal (dots (tl q)) % 65536]
def P6.first (p : P6) : List Nat := p.ahead.map hexNum ++ (if p.behind.isSome then [] else qMore p.quad)
def P6.last (p : P6) : List Nat := (p.behind.getD []).map hexNum ++ (if p.behind.isSome then qMore p.quad else [])
def val16 (gs : List Nat) : Nat := gs.foldl (fun a g => a * 65536 + g) 0
def P6.val (p : P6) : Nat := val16 (p.first ++ List.replicate (8 - p.first.length - p.last.length) 0 ++ p.last)
theorem P6.noq {p : P6} (h : p.quad = ("" : Str)) : p.ahead.map hexNum = p.first ∧ (p.behind.getD []).map hexNum = p.last := by
  unfold P6.first P6.last qMore
  rw [if_pos h]
  constructor <;> simp
theorem P6.q1 {p : P6} {n : Nat} (h : ¬ p.quad = ("" : Str)) (hn : n = quadVal (dots (tl p.quad))) (hb : p.behind.isNone = true) : p.first = p.ahead.map hexNum ++ [n / 65536, n % 65536] ∧ (p.behind.getD []).map hexNum = p.last := by
  obtain ⟨pa, pb, pq⟩ := p
  cases pb with
  | some bs => cases hb
  | none =>
    unfold P6.first P6.last qMore
    rw [if_neg h, ← hn]
    exact ⟨rfl, rfl⟩
theorem P6.q2 {p : P6} {n : Nat} (h : ¬ p.quad = ("" : Str)) (hn : n = quadVal (dots (tl p.quad))) (hb : p.behind.isNone = false) : p.last = (p.behind.getD []).map hexNum ++ [n / 65536, n % 65536] ∧ p.ahead.map hexNum = p.first := by
  obtain ⟨pa, pb, pq⟩ := p
  cases pb with
  | none => cases hb
  | some bs =>
    unfold P6.first P6.last qMore
    rw [if_neg h, ← hn]
    exact ⟨rfl, by simp⟩
theorem fault_quad {z : Str} (h : g6Fault z = none) (hq : quadOf z ≠ ("" : Str)) : quadFault (tl (quadOf z)) = none := by
  have h46 : 46 ∈ z.cps.toList := Classical.byContradiction fun c => hq (by unfold quadOf; rw [if_neg c])
  have e : quadOf z = cutS z (some (qPlace z)) none := by unfold quadOf; rw [if_pos h46]
  unfold g6Fault at h
  split at h
  · cases h
  split at h
  · cases h
  rename_i h2
  unfold wrongQuad at h2
  rw [decide_eq_true h46, Bool.true_and, Bool.or_eq_true] at h2
  rw [e]
  cases x : quadFault (tl (cutS z (some (qPlace z)) none)) with
  | none => rfl
  | some y => exact absurd (Or.inr (by rw [x]; rfl)) h2
abbrev s_quad_place : Stmt := (top 17)
abbrev N_quad_place : List Str := [("text" : Str)]
theorem sc_quad_place : FnScope N_quad_place [("text" : Str)] (defScope s_quad_place) := ⟨rfl, rfl, rfl, by decide +kernel, rfl, by decide +kernel, by decide +kernel⟩
def sp_quad_place (K : Frag) : Sp := fun vs H Q E => ∃ z : Str, vs = [.str z] ∧ Q (.int (qPlace z)) H
theorem ok_quad_place (T : Tx K mg) : FnG P w K mg base 1 "quad_place" (sp_quad_place K) := by
  refine ⟨fnr T.d_quad_place sc_quad_place (fun vs H Q E h => by obtain ⟨z, rfl, q⟩ := h; rfl) (fun _ _ _ _ _ _ us hl => match us, hl with | [_], _ => rfl) (fun cdv A outer s H vs Q E hr h => ?_), T.kp_quad_place, T.g_quad_place⟩
  have nd := sc_quad_place.nd
  have hu := hu_of hr
  obtain ⟨z, rfl, q⟩ := h
  refine ⟨_, PSs.nox (pss_one (ps_ret (pe_op op_add (pe_bm PySem.F.plainAttrs_str PySem.F.slot_str_rfind PySem.F.type_str_rfind mt_rfind (pv 0) (pa_cons pe_str pa_nil)) pe_int))), ?_⟩
  walk_at "rd"
  exact q
abbrev s_has_wrong_quad : Stmt := (top 18)
abbrev N_has_wrong_quad : List Str := [("text" : Str), ("place" : Str)]
theorem sc_has_wrong_quad : FnScope N_has_wrong_quad [("text" : Str)] (defScope s_has_wrong_quad) := ⟨rfl, rfl, rfl, by decide +kernel, rfl, by decide +kernel, by decide +kernel⟩
def sp_has_wrong_quad (K : Frag) : Sp := fun vs H Q E => ∃ z : Str, vs = [.str z] ∧ z.length ≤ 100000 ∧ ∀ H', Same H H' → Q (.bl (wrongQuad z)) H'
theorem ok_has_wrong_quad (T : Tx K mg) : FnG P w K mg base 3 "has_wrong_quad" (sp_has_wrong_quad K) := by
  have F_quad_place := ok_quad_place (P := P) (w := w) (base := base) T
  have F_quad_fault := ok_quad_fault (P := P) (w := w) (base := base) T
  refine ⟨fnr T.d_has_wrong_quad sc_has_wrong_quad (fun vs H Q E h => by obtain ⟨z, rfl, hz, q⟩ := h; rfl) (fun _ _ _ _ _ _ us hl => match us, hl with | [_], _ => rfl) (fun cdv A outer s H vs Q E hr h => ?_), T.kp_has_wrong_quad, T.g_has_wrong_quad⟩
  have nd := sc_has_wrong_quad.nd
  have hu := hu_of hr
  obtain ⟨z, rfl, hz, q⟩ := h
  refine ⟨_, PSs.nox (pss_cons (ps_set (i := 1) nd rfl (Or.inl rfl) (pe_f F_quad_place (hr.mono (by decide)) passL (pa_cons (pv 0) pa_nil)))
        (pss_one (ps_ret (pe_and (pe_cmpR op_in_sign pe_str (pv 0) (by rfl)) (pe_one (pe_or (pe_cmpR op_in_sign pe_str (pe_slice sl_str (pv 0) po_none (po_some (pv 1))) (by rfl)) (pe_one (pe_cmpR op_notN (pe_f F_quad_fault (hr.mono (by decide)) passL (pa_cons (pe_slice sl_str (pv 0) (po_some (pv 1)) po_none) pa_nil)) pe_non (nomark _))))))))), ?_⟩
  walk_at "rd"
  by_cases h46 : 46 ∈ z.cps.toList
  · refine itT (decide_eq_true h46) ?_
    walk_at "rd"
    refine ⟨sizeL hz, ?_⟩
    walk_at "rd"
    by_cases h2 : 46 ∈ (cutS z none (some (qPlace z))).cps.toList
    · refine itT (decide_eq_true h2) ?_
      refine q_eq (q H (Same.refl _)) ?_
      unfold wrongQuad
      rw [decide_eq_true h46, decide_eq_true h2]; rfl
    · refine itF (decide_eq_false h2) ?_
      walk_at "rd"
      refine ⟨sizeL hz, ?_⟩
      walk_at "rd"
      refine ⟨Nat.le_trans (cutS_len ..) hz, fun H1 s1 => ?_⟩
      walk_at "rd"
      refine q_eq (q H1 s1) ?_
      unfold wrongQuad
      rw [decide_eq_true h46, decide_eq_false h2]
      cases quadFault (tl (cutS z (some (qPlace z)) none)) <;> rfl
  · refine itF (decide_eq_false h46) ?_
    refine q_eq (q H (Same.refl _)) ?_
    unfold wrongQuad
    rw [decide_eq_false h46]; rfl
abbrev s_has_wrong_gaps : Stmt := (top 19)
abbrev N_has_wrong_gaps : List Str := [("text" : Str)]
theorem sc_has_wrong_gaps : FnScope N_has_wrong_gaps [("text" : Str)] (defScope s_has_wrong_gaps) := ⟨rfl, rfl, rfl, by decide +kernel, rfl, by decide +kernel, by decide +kernel⟩
def sp_has_wrong_gaps (K : Frag) : Sp := fun vs H Q E => ∃ z : Str, vs = [.str z] ∧ Q (.bl (wrongGaps z)) H
theorem ok_has_wrong_gaps (T : Tx K mg) : FnG P w K mg base 1 "has_wrong_gaps" (sp_has_wrong_gaps K) := by
  refine ⟨fnr T.d_has_wrong_gaps sc_has_wrong_gaps (fun vs H Q E h => by obtain ⟨z, rfl, q⟩ := h; rfl) (fun _ _ _ _ _ _ us hl => match us, hl with | [_], _ => rfl) (fun cdv A outer s H vs Q E hr h => ?_), T.kp_has_wrong_gaps, T.g_has_wrong_gaps⟩
  have nd := sc_has_wrong_gaps.nd
  have hu := hu_of hr
  obtain ⟨z, rfl, q⟩ := h
  refine ⟨_, PSs.nox (pss_one (ps_ret (pe_or (pe_cmpR op_in_str pe_str (pv 0) (by rfl)) (pe_one (pe_cmpR op_gt (pe_m1 PySem.F.slot_str_count PySem.F.type_str_count mt_count (pv 0) pe_str) pe_int (nomark _)))))), ?_⟩
  walk_at "rd"
  cases h : inS (":::" : Str) z with
  | true =>
    refine itT h ?_
    refine q_eq q ?_
    unfold wrongGaps
    rw [h]; rfl
  | false =>
    refine itF h ?_
    walk_at "rd"
    refine ⟨⟨_, rfl⟩, ?_⟩
    walk_at "rd"
    refine q_eq q ?_
    unfold wrongGaps
    rw [h]; rfl
abbrev s_has_wrong_ends : Stmt := (top 20)
abbrev N_has_wrong_ends : List Str := [("text" : Str)]
theorem sc_has_wrong_ends : FnScope N_has_wrong_ends [("text" : Str)] (defScope s_has_wrong_ends) := ⟨rfl, rfl, rfl, by decide +kernel, rfl, by decide +kernel, by decide +kernel⟩
def sp_has_wrong_ends (K : Frag) : Sp := fun vs H Q E => ∃ z : Str, vs = [.str z] ∧ Q (.bl (wrongEnds z)) H
theorem ok_has_wrong_ends (T : Tx K mg) : FnG P w K mg base 1 "has_wrong_ends" (sp_has_wrong_ends K) := by
  refine ⟨fnr T.d_has_wrong_ends sc_has_wrong_ends (fun vs H Q E h => by obtain ⟨z, rfl, q⟩ := h; rfl) (fun _ _ _ _ _ _ us hl => match us, hl with | [_], _ => rfl) (fun cdv A outer s H vs Q E hr h => ?_), T.kp_has_wrong_ends, T.g_has_wrong_ends⟩
  have nd := sc_has_wrong_ends.nd
  have hu := hu_of hr
  obtain ⟨z, rfl, q⟩ := h
  refine ⟨_, PSs.nox (pss_cons (ps_if (PW.pt (pw_and (pt_val (pe_m1 PySem.F.slot_str_startswith PySem.F.type_str_startswith mt_startswith (pv 0) pe_str)) (pw_and1 (pt_not (pt_val (pe_m1 PySem.F.slot_str_startswith PySem.F.type_str_startswith mt_startswith (pv 0) pe_str)))))) (pss_one (ps_ret pe_bl))
        pss_nil)
        (pss_one (ps_ret (pe_and (pe_m1 PySem.F.slot_str_endswith PySem.F.type_str_endswith mt_endswith (pv 0) pe_str) (pe_one (pe_not (pe_m1 PySem.F.slot_str_endswith PySem.F.type_str_endswith mt_endswith (pv 0) pe_str))))))), ?_⟩
  walk_at "rd"
  refine ⟨⟨_, rfl⟩, ?_⟩
  walk_at "rd"
  cases h1 : Txt.startswith z (":" : Str) with
  | true =>
    walk_at "rd"
    refine ⟨⟨_, rfl⟩, ?_⟩
    walk_at "rd"
    cases h2 : Txt.startswith z ("::" : Str) with
    | true =>
      walk_at "rd"
      refine ⟨⟨_, rfl⟩, ?_⟩
      walk_at "rd"
      cases h3 : Txt.endswith z (":" : Str) with
      | true =>
        walk_at "rd"
        refine ⟨⟨_, rfl⟩, ?_⟩
        walk_at "rd"
        refine q_eq q ?_
        unfold wrongEnds
        rw [h1, h2, h3]; rfl
      | false =>
        walk_at "rd"
        refine q_eq q ?_
        unfold wrongEnds
        rw [h1, h2, h3]; rfl
    | false =>
      walk_at "rd"
      refine q_eq q ?_
      unfold wrongEnds
      rw [h1, h2]; rfl
  | false =>
    walk_at "rd"
    refine ⟨⟨_, rfl⟩, ?_⟩
    walk_at "rd"
    cases h3 : Txt.endswith z (":" : Str) with
    | true =>
      walk_at "rd"
      refine ⟨⟨_, rfl⟩, ?_⟩
      walk_at "rd"
      refine q_eq q ?_
      unfold wrongEnds
      rw [h1, h3]; rfl
    | false =>
      walk_at "rd"
      refine q_eq q ?_
      unfold wrongEnds
      rw [h1, h3]; rfl
abbrev s_hex_groups : Stmt := (top 21)
abbrev N_hex_groups : List Str := [("text" : Str)]
theorem sc_hex_groups : FnScope N_hex_groups [("text" : Str)] (defScope s_hex_groups) := ⟨rfl, rfl, rfl, by decide +kernel, rfl, by decide +kernel, by decide +kernel⟩
def sp_hex_groups (K : Frag) : Sp := fun vs H Q E => ∃ z : Str, vs = [.str z] ∧ z.length ≤ 100000 ∧ ∀ (p : Addr) (H' : Hp), Same H H' → H p = none → H' p = some (.lst ((hexGroups z).map V.str)) → Q (.ref p) H'
theorem ok_hex_groups (T : Tx K mg) : FnG P w K mg base 1 "hex_groups" (sp_hex_groups K) := by
  refine ⟨fnr T.d_hex_groups sc_hex_groups (fun vs H Q E h => by obtain ⟨z, rfl, hz, q⟩ := h; rfl) (fun _ _ _ _ _ _ us hl => match us, hl with | [_], _ => rfl) (fun cdv A outer s H vs Q E hr h => ?_), T.kp_hex_groups, T.g_hex_groups⟩
  have nd := sc_hex_groups.nd
  have hu := hu_of hr
  obtain ⟨z, rfl, hz, q⟩ := h
  refine ⟨_, PSs.nox (pss_one (ps_ret (pe_ifExp (pt_cmpR op_eq (pv 0) pe_str (nomark _)) (p_lst pa_nil) (pe_m1 PySem.F.slot_str_split PySem.F.type_str_split m_split (pv 0) pe_str)))), ?_⟩
  walk_at "rd"
  by_cases h : z = ("" : Str)
  · refine itT (decide_eq_true (by rw [h])) ?_
    refine ⟨lz, fun p H1 s1 np hp => q p H1 s1 np ?_⟩
    rw [hp]; unfold hexGroups; rw [if_pos h]; rfl
  · refine itF (decide_eq_false (fun e => h (by injection e))) ?_
    walk_at "rd"
    refine ⟨⟨_, rfl⟩, _, _, rfl, rfl, by decide, Nat.le_trans (Nat.add_le_add_right hz 2) (by decide), fun p H1 s1 np hp => q p H1 s1 np ?_⟩
    rw [hp]; unfold hexGroups; rw [if_neg h]
abbrev s_parts_of : Stmt := (top 22)
abbrev N_parts_of : List Str := [("text" : Str), ("place" : Str), ("quad" : Str), ("plain" : Str), ("ahead" : Str), ("gap" : Str), ("behind" : Str)]
theorem sc_parts_of : FnScope N_parts_of [("text" : Str)] (defScope s_parts_of) := ⟨rfl, rfl, rfl, by decide +kernel, rfl, by decide +kernel, by decide +kernel⟩
def sp_parts_of (K : Frag) : Sp := fun vs H Q E => ∃ z : Str, vs = [.str z] ∧ z.length ≤ 100000 ∧ ∀ (t : Addr) (H' : Hp), Same H H' → P6At H' t (partsOf z) → Q (.ref t) H'
theorem ok_parts_of (T : Tx K mg) : FnG P w K mg base 2 "parts_of" (sp_parts_of K) := by
  have F_quad_place := ok_quad_place (P := P) (w := w) (base := base) T
  have F_hex_groups := ok_hex_groups (P := P) (w := w) (base := base) T
  refine ⟨fnr T.d_parts_of sc_parts_of (fun vs H Q E h => by obtain ⟨z, rfl, hz, q⟩ := h; rfl) (fun _ _ _ _ _ _ us hl => match us, hl with | [_], _ => rfl) (fun cdv A outer s H vs Q E hr h => ?_), T.kp_parts_of, T.g_parts_of⟩
  have nd := sc_parts_of.nd
  have hu := hu_of hr
  obtain ⟨z, rfl, hz, q⟩ := h
  refine ⟨_, PSs.nox (pss_cons (ps_set (i := 1) nd rfl (Or.inl rfl) (pe_f F_quad_place (hr.mono (by decide)) passL (pa_cons (pv 0) pa_nil)))
        (pss_cons (ps_set (i := 2) nd rfl (Or.inl rfl) (pe_ifExp (pt_cmpR op_in_sign pe_str (pv 0) (by rfl)) (pe_slice sl_str (pv 0) (po_some (pv 1)) po_none) pe_str))
        (pss_cons (ps_set (i := 3) nd rfl (Or.inl rfl) (pe_ifExp (pt_cmpR op_ne (pv 2) pe_str (nomark _)) (pe_slice sl_str (pv 0) po_none (po_some (pv 1))) (pv 0)))
        (pss_cons (ps_if (pt_cmpR op_in_str pe_str (pv 3) (by rfl)) (pss_cons (ps_asg (pe_m1 PySem.F.slot_str_partition PySem.F.type_str_partition m_partition (pv 3) pe_str) (pg_tup rfl (pgs_cons (pg_name (i := 4) nd rfl (Or.inl rfl)) (pgs_cons (pg_name (i := 5) nd rfl (Or.inl rfl)) (pgs_cons (pg_name (i := 6) nd rfl (Or.inl rfl)) pgs_nil)))))
        (pss_one (ps_ret (p_tup (pa_cons (pe_f F_hex_groups (hr.mono (by decide)) passL (pa_cons (pv 4) pa_nil)) (pa_cons (pe_f F_hex_groups (hr.mono (by decide)) passL (pa_cons (pe_bm PySem.F.plainAttrs_str PySem.F.slot_str_rstrip PySem.F.type_str_rstrip mt_rstripChars (pv 6) (pa_cons pe_str pa_nil)) pa_nil)) (pa_cons (pv 2) pa_nil)))))))
        pss_nil)
        (pss_one (ps_ret (p_tup (pa_cons (pe_f F_hex_groups (hr.mono (by decide)) passL (pa_cons (pe_bm PySem.F.plainAttrs_str PySem.F.slot_str_rstrip PySem.F.type_str_rstrip mt_rstripChars (pv 3) (pa_cons pe_str pa_nil)) pa_nil)) (pa_cons pe_non (pa_cons (pv 2) pa_nil)))))))))), ?_⟩
  walk_at "rd"
  by_cases h46 : 46 ∈ z.cps.toList
  · refine itT (decide_eq_true h46) ?_
    walk_at "rd"
    refine ⟨sizeL hz, ?_⟩
    have eq : quadOf z = cutS z (some (qPlace z)) none := if_pos h46
    rw [← eq]
    walk_at "rd"
    by_cases hq : quadOf z = ("" : Str)
    · refine itF (by rw [decide_eq_true (by rw [hq])]; rfl) ?_
      have ep : plainOf z = z := if_pos hq
      have hpz : z.length ≤ 100000 := hz
      walk_at "rd"
      have pl := part_len z ("::" : Str) (by decide +kernel)
      cases hin : inS ("::" : Str) z with
      | true =>
        refine itT hin ?_
        walk_at "rd"
        refine ⟨⟨_, rfl⟩, _, _, rfl, rfl, by decide, sizeL hpz, fun tp H1 s1 np hp => ?_⟩
        refine ⟨tp, _, rfl, SqT.of hp, rfl, _, _, rfl, _, _, rfl, _, _, rfl, rfl, ?_⟩
        walk_at "rd"
        refine ⟨Nat.le_trans pl.1 hpz, fun l1 H2 s2 nl1 h1 => ?_⟩
        walk_at "rd"
        refine ⟨sizeL (Nat.le_trans pl.2 hpz), ?_⟩
        walk_at "rd"
        refine ⟨Nat.le_trans (len_rstripChars ..) (Nat.le_trans pl.2 hpz), fun l2 H3 s3 nl2 h2 => ?_⟩
        walk_at "rd"
        refine ⟨lz, fun t H4 s4 nt ht => ?_⟩
        refine q t H4 (by walk_at "same") ?_
        unfold partsOf
        rw [ep, if_pos hin]
        exact ⟨l1, .ref l2, ht, s4 _ _ (s3 _ _ h1), l2, rfl, s4 _ _ h2⟩
      | false =>
        refine itF hin ?_
        walk_at "rd"
        refine ⟨sizeL hpz, ?_⟩
        walk_at "rd"
        refine ⟨Nat.le_trans (len_rstripChars ..) hpz, fun l1 H2 s2 nl1 h1 => ?_⟩
        walk_at "rd"
        refine ⟨lz, fun t H4 s4 nt ht => ?_⟩
        refine q t H4 (by walk_at "same") ?_
        unfold partsOf
        rw [ep, if_neg (by rw [hin]; exact Bool.false_ne_true)]
        exact ⟨l1, .non, ht, s4 _ _ h1, rfl⟩
    · refine itT (by rw [decide_eq_false (fun e => hq (by injection e))]; rfl) ?_
      have ep : plainOf z = cutS z none (some (qPlace z)) := if_neg hq
      walk_at "rd"
      refine ⟨sizeL hz, ?_⟩
      have hpz : (cutS z none (some (qPlace z))).length ≤ 100000 := Nat.le_trans (cutS_len ..) hz
      walk_at "rd"
      have pl := part_len (cutS z none (some (qPlace z))) ("::" : Str) (by decide +kernel)
      cases hin : inS ("::" : Str) (cutS z none (some (qPlace z))) with
      | true =>
        refine itT hin ?_
        walk_at "rd"
        refine ⟨⟨_, rfl⟩, _, _, rfl, rfl, by decide, sizeL hpz, fun tp H1 s1 np hp => ?_⟩
        refine ⟨tp, _, rfl, SqT.of hp, rfl, _, _, rfl, _, _, rfl, _, _, rfl, rfl, ?_⟩
        walk_at "rd"
        refine ⟨Nat.le_trans pl.1 hpz, fun l1 H2 s2 nl1 h1 => ?_⟩
        walk_at "rd"
        refine ⟨sizeL (Nat.le_trans pl.2 hpz), ?_⟩
        walk_at "rd"
        refine ⟨Nat.le_trans (len_rstripChars ..) (Nat.le_trans pl.2 hpz), fun l2 H3 s3 nl2 h2 => ?_⟩
        walk_at "rd"
        refine ⟨lz, fun t H4 s4 nt ht => ?_⟩
        refine q t H4 (by walk_at "same") ?_
        unfold partsOf
        rw [ep, if_pos hin]
        exact ⟨l1, .ref l2, ht, s4 _ _ (s3 _ _ h1), l2, rfl, s4 _ _ h2⟩
      | false =>
        refine itF hin ?_
        walk_at "rd"
        refine ⟨sizeL hpz, ?_⟩
        walk_at "rd"
        refine ⟨Nat.le_trans (len_rstripChars ..) hpz, fun l1 H2 s2 nl1 h1 => ?_⟩
        walk_at "rd"
        refine ⟨lz, fun t H4 s4 nt ht => ?_⟩
        refine q t H4 (by walk_at "same") ?_
        unfold partsOf
        rw [ep, if_neg (by rw [hin]; exact Bool.false_ne_true)]
        exact ⟨l1, .non, ht, s4 _ _ h1, rfl⟩
  · refine itF (decide_eq_false h46) ?_
    have eq : quadOf z = ("" : Str) := if_neg h46
    rw [← eq]
    walk_at "rd"
    by_cases hq : quadOf z = ("" : Str)
    · refine itF (by rw [decide_eq_true (by rw [hq])]; rfl) ?_
      have ep : plainOf z = z := if_pos hq
      have hpz : z.length ≤ 100000 := hz
      walk_at "rd"
      have pl := part_len z ("::" : Str) (by decide +kernel)
      cases hin : inS ("::" : Str) z with
      | true =>
        refine itT hin ?_
        walk_at "rd"
        refine ⟨⟨_, rfl⟩, _, _, rfl, rfl, by decide, sizeL hpz, fun tp H1 s1 np hp => ?_⟩
        refine ⟨tp, _, rfl, SqT.of hp, rfl, _, _, rfl, _, _, rfl, _, _, rfl, rfl, ?_⟩
        walk_at "rd"
        refine ⟨Nat.le_trans pl.1 hpz, fun l1 H2 s2 nl1 h1 => ?_⟩
        walk_at "rd"
        refine ⟨sizeL (Nat.le_trans pl.2 hpz), ?_⟩
        walk_at "rd"
        refine ⟨Nat.le_trans (len_rstripChars ..) (Nat.le_trans pl.2 hpz), fun l2 H3 s3 nl2 h2 => ?_⟩
        walk_at "rd"
        refine ⟨lz, fun t H4 s4 nt ht => ?_⟩
        refine q t H4 (by walk_at "same") ?_
        unfold partsOf
        rw [ep, if_pos hin]
        exact ⟨l1, .ref l2, ht, s4 _ _ (s3 _ _ h1), l2, rfl, s4 _ _ h2⟩
      | false =>
        refine itF hin ?_
        walk_at "rd"
        refine ⟨sizeL hpz, ?_⟩
        walk_at "rd"
        refine ⟨Nat.le_trans (len_rstripChars ..) hpz, fun l1 H2 s2 nl1 h1 => ?_⟩
        walk_at "rd"
        refine ⟨lz, fun t H4 s4 nt ht => ?_⟩
        refine q t H4 (by walk_at "same") ?_
        unfold partsOf
        rw [ep, if_neg (by rw [hin]; exact Bool.false_ne_true)]
        exact ⟨l1, .non, ht, s4 _ _ h1, rfl⟩
    · refine itT (by rw [decide_eq_false (fun e => hq (by injection e))]; rfl) ?_
      have ep : plainOf z = cutS z none (some (qPlace z)) := if_neg hq
      walk_at "rd"
      refine ⟨sizeL hz, ?_⟩
      have hpz : (cutS z none (some (qPlace z))).length ≤ 100000 := Nat.le_trans (cutS_len ..) hz
      walk_at "rd"
      have pl := part_len (cutS z none (some (qPlace z))) ("::" : Str) (by decide +kernel)
      cases hin : inS ("::" : Str) (cutS z none (some (qPlace z))) with
      | true =>
        refine itT hin ?_
        walk_at "rd"
        refine ⟨⟨_, rfl⟩, _, _, rfl, rfl, by decide, sizeL hpz, fun tp H1 s1 np hp => ?_⟩
        refine ⟨tp, _, rfl, SqT.of hp, rfl, _, _, rfl, _, _, rfl, _, _, rfl, rfl, ?_⟩
        walk_at "rd"
        refine ⟨Nat.le_trans pl.1 hpz, fun l1 H2 s2 nl1 h1 => ?_⟩
        walk_at "rd"
        refine ⟨sizeL (Nat.le_trans pl.2 hpz), ?_⟩
        walk_at "rd"
        refine ⟨Nat.le_trans (len_rstripChars ..) (Nat.le_trans pl.2 hpz), fun l2 H3 s3 nl2 h2 => ?_⟩
        walk_at "rd"
        refine ⟨lz, fun t H4 s4 nt ht => ?_⟩
        refine q t H4 (by walk_at "same") ?_
        unfold partsOf
        rw [ep, if_pos hin]
        exact ⟨l1, .ref l2, ht, s4 _ _ (s3 _ _ h1), l2, rfl, s4 _ _ h2⟩
      | false =>
        refine itF hin ?_
        walk_at "rd"
        refine ⟨sizeL hpz, ?_⟩
        walk_at "rd"
        refine ⟨Nat.le_trans (len_rstripChars ..) hpz, fun l1 H2 s2 nl1 h1 => ?_⟩
        walk_at "rd"
        refine ⟨lz, fun t H4 s4 nt ht => ?_⟩
        refine q t H4 (by walk_at "same") ?_
        unfold partsOf
        rw [ep, if_neg (by rw [hin]; exact Bool.false_ne_true)]
        exact ⟨l1, .non, ht, s4 _ _ h1, rfl⟩
abbrev s_has_wrong_count : Stmt := (top 23)
abbrev N_has_wrong_count : List Str := [("ahead" : Str), ("behind" : Str), ("quad" : Str), ("many" : Str)]
theorem sc_has_wrong_count : FnScope N_has_wrong_count [("ahead" : Str), ("behind" : Str), ("quad" : Str)] (defScope s_has_wrong_count) := ⟨rfl, rfl, rfl, by decide +kernel, rfl, by decide +kernel, by decide +kernel⟩
def sp_has_wrong_count (K : Frag) : Sp := fun vs H Q E => ∃ (l1 : Addr) (b : V) (p : P6), vs = [.ref l1, b, .str p.quad] ∧ H l1 = some (.lst (p.ahead.map V.str)) ∧ OptL H b p.behind ∧ ∀ H', Same H H' → Q (.bl p.wrong) H'
theorem ok_has_wrong_count (T : Tx K mg) : FnG P w K mg base 1 "has_wrong_count" (sp_has_wrong_count K) := by
  refine ⟨fnr T.d_has_wrong_count sc_has_wrong_count (fun vs H Q E h => by obtain ⟨l1, b, p, rfl, h1, hb, q⟩ := h; rfl) (fun _ _ _ _ _ _ us hl => match us, hl with | [_, _, _], _ => rfl) (fun cdv A outer s H vs Q E hr h => ?_), T.kp_has_wrong_count, T.g_has_wrong_count⟩
  have nd := sc_has_wrong_count.nd
  have hu := hu_of hr
  obtain ⟨l1, b, p, rfl, h1, hb, q⟩ := h
  refine ⟨_, PSs.nox (pss_cons (ps_set (i := 3) nd rfl (Or.inl rfl) (pe_op op_add (pe_op op_add (pe_callB (c_lenq K) (by rfl) T.f_len bb_len (pa_cons (pv 0) pa_nil)) (pe_callB (c_lenq K) (by rfl) T.f_len bb_len (pa_cons (p_orT K (pv 1) (pe_one (p_lst pa_nil))) pa_nil))) (pe_op op_mul pe_int (pe_callTy call_int1 (by rfl) T.f_int bb_int (pa_cons (pe_cmpR op_ne (pv 2) pe_str (nomark _)) pa_nil)))))
        (pss_one (ps_ret (pe_ifExp (pt_cmpR op_isN (pv 1) pe_non (nomark _)) (pe_cmpR op_ne (pv 3) pe_int (nomark _)) (pe_cmpR op_gt (pv 3) pe_int (nomark _)))))), ?_⟩
  walk_at "rd"
  refine ⟨_, _, rfl, Or.inl (SqL.of h1), ?_⟩
  walk_at "rd"
  refine or_list hb fun l2 H2 s2 h2 => ?_
  walk_at "rd"
  refine ⟨_, _, rfl, Or.inl (SqL.of h2), ?_⟩
  walk_at "rd"
  refine Or.inr ⟨_, rfl, ?_⟩
  walk_at "rd"
  rw [opt_isN hb]
  obtain ⟨pa, pb, pq⟩ := p
  have em : ((pa.map V.str).length : Int) + (((pb.getD []).map V.str).length : Int) + 2 * (if (!decide (V.str pq = V.str ("" : Str))) = true then 1 else 0) = P6.many ⟨pa, pb, pq⟩ := by
    unfold P6.many
    rw [List.length_map, List.length_map]
    by_cases hq : pq = ("" : Str)
    · rw [if_pos hq, decide_eq_true (by rw [hq])]; rfl
    · rw [if_neg hq, decide_eq_false (fun e => hq (by injection e))]; rfl
  cases pb with
  | none =>
    refine iteT ?_
    walk_at "rd"
    refine q_eq (q H2 s2) ?_
    show V.bl (!decide (V.int (P6.many _) = V.int 8)) = _
    rw [← em]
  | some bs =>
    refine iteF ?_
    walk_at "rd"
    refine q_eq (q H2 s2) ?_
    show V.bl (decide (7 < P6.many _)) = _
    rw [← em]
abbrev s_groups_fault : Stmt := (top 24)
abbrev N_groups_fault : List Str := [("text" : Str), ("ahead" : Str), ("behind" : Str), ("quad" : Str), ("sign" : Str), ("group" : Str)]
theorem sc_groups_fault : FnScope N_groups_fault [("text" : Str)] (defScope s_groups_fault) := ⟨rfl, rfl, rfl, by decide +kernel, rfl, by decide +kernel, by decide +kernel⟩
def sp_groups_fault (K : Frag) : Sp := fun vs H Q E => ∃ z : Str, vs = [.str z] ∧ z.length ≤ 100000 ∧ ∀ H', Same H H' → Q (optV (g6Fault z)) H'
theorem ok_groups_fault (T : Tx K mg) : FnG P w K mg base 4 "groups_fault" (sp_groups_fault K) := by
  have F_has_wrong_quad := ok_has_wrong_quad (P := P) (w := w) (base := base) T
  have F_has_wrong_gaps := ok_has_wrong_gaps (P := P) (w := w) (base := base) T
  have F_has_wrong_ends := ok_has_wrong_ends (P := P) (w := w) (base := base) T
  have F_parts_of := ok_parts_of (P := P) (w := w) (base := base) T
  have F_has_wrong_count := ok_has_wrong_count (P := P) (w := w) (base := base) T
  refine ⟨fnr T.d_groups_fault sc_groups_fault (fun vs H Q E h => by obtain ⟨z, rfl, hz, q⟩ := h; rfl) (fun _ _ _ _ _ _ us hl => match us, hl with | [_], _ => rfl) (fun cdv A outer s H vs Q E hr h => ?_), T.kp_groups_fault, T.g_groups_fault⟩
  have nd := sc_groups_fault.nd
  have hu := hu_of hr
  obtain ⟨z, rfl, hz, q⟩ := h
  refine ⟨_, PSs.nox (pss_cons (ps_if (pt_not (pt_val (pe_callB (c_all K rfl) (by rfl) T.f_all bb_all (pa_cons (pe_lc (own := [("sign", 4)]) rfl nd (pi_str (pv 0)) (blkOk_by (own := [("sign", 4)]) (N := N_groups_fault) (sc := defScope s_groups_fault) (by decide +kernel)) (fun _ _ _ _ _ => (pg_name (i := 4) nd rfl (Or.inl rfl))) (fun _ _ _ _ _ => pts_nil) (fun _ _ _ _ _ => (pe_or (pe_cmpR op_in_str (pe_lower (pv 4)) (pe_gs T.s_HEX) (by rfl)) (pe_one (pe_cmpR op_in_sign (pv 4) pe_str (by rfl)))))) pa_nil)))) (pss_one (ps_ret pe_str))
        pss_nil)
        (pss_cons (ps_if (pt_val (pe_f F_has_wrong_quad (hr.mono (by decide)) passL (pa_cons (pv 0) pa_nil))) (pss_one (ps_ret pe_str))
        pss_nil)
        (pss_cons (ps_if (pt_val (pe_f F_has_wrong_gaps (hr.mono (by decide)) passL (pa_cons (pv 0) pa_nil))) (pss_one (ps_ret pe_str))
        pss_nil)
        (pss_cons (ps_if (pt_val (pe_f F_has_wrong_ends (hr.mono (by decide)) passL (pa_cons (pv 0) pa_nil))) (pss_one (ps_ret pe_str))
        pss_nil)
        (pss_cons (ps_asg (pe_f F_parts_of (hr.mono (by decide)) passL (pa_cons (pv 0) pa_nil)) (pg_tup rfl (pgs_cons (pg_name (i := 1) nd rfl (Or.inl rfl)) (pgs_cons (pg_name (i := 2) nd rfl (Or.inl rfl)) (pgs_cons (pg_name (i := 3) nd rfl (Or.inl rfl)) pgs_nil)))))
        (pss_cons (ps_if (pt_not (pt_val (pe_callB (c_all K rfl) (by rfl) T.f_all bb_all (pa_cons (pe_lc (own := [("group", 5)]) rfl nd (i_list K (pe_op (o_catA K) (pv 1) (p_orT K (pv 2) (pe_one (p_lst pa_nil))))) (blkOk_by (own := [("group", 5)]) (N := N_groups_fault) (sc := defScope s_groups_fault) (by decide +kernel)) (fun _ _ _ _ _ => (pg_name (i := 5) nd rfl (Or.inl rfl))) (fun _ _ _ _ _ => pts_nil) (fun _ _ _ _ _ => (pe_cmpR op_lt (pe_callB (c_lenv K) (by rfl) T.f_len bb_len (pa_cons (pv 5) pa_nil)) pe_int (nomark _)))) pa_nil)))) (pss_one (ps_ret pe_str))
        pss_nil)
        (pss_one (ps_ret (pe_ifExp (pt_val (pe_f F_has_wrong_count (hr.mono (by decide)) passL (pa_cons (pv 1) (pa_cons (pv 2) (pa_cons (pv 3) pa_nil))))) pe_str pe_non))))))))), ?_⟩
  walk_at "rd"
  intro D nD
  refine lc_mp (tl z) sgn (fun c => .bl (okSign c)) walk_str (size_tl z) (by rw [← len_tl]; exact Nat.lt_of_le_of_lt hz (by decide)) ystr nD (fun _ _ => trivial) ?_ ?_
  · intro c hc H1 s1 Qe k
    refine ⟨rfl, ?_⟩
    walk_at "rd"
    refine ⟨⟨_, rfl⟩, _, rfl, rfl, Nat.le_trans (by decide : 1 ≤ 5592405) (Nat.le_refl _), ?_⟩
    walk_at "rd"
    cases hi : inS (Txt.lower ⟨#[c]⟩) hexD with
    | true =>
      refine itT hi (q_eq (k H1 (Same.refl _)) ?_)
      unfold okSign
      rw [hi]; rfl
    | false =>
      refine itF hi ?_
      walk_at "rd"
      refine q_eq (k H1 (Same.refl _)) ?_
      unfold okSign
      rw [hi]; rfl
  intro H1 s1 h1
  refine ⟨D, (tl z).map okSign, rfl, ?_, ?_⟩
  · have e : ((tl z).map okSign).map V.bl = (tl z).map (fun c => V.bl (okSign c)) := by rw [List.map_map]; rfl
    rw [e]; exact SqL.of h1
  have ea : ((tl z).map okSign).all id = (tl z).all okSign := by rw [List.all_map]; rfl
  walk_at "rd"
  rw [ea]
  unfold g6Fault at q
  cases hd : (tl z).all okSign with
  | false =>
    refine iteT ?_
    rw [if_pos hd] at q
    exact q H1 s1
  | true =>
  refine iteF ?_
  rw [if_neg (by rw [hd]; simp)] at q
  walk_at "rd"
  refine ⟨hz, fun H2 s2 => ?_⟩
  walk_at "rd"
  cases hd : wrongQuad z with
  | true =>
    refine itT rfl ?_
    rw [if_pos hd] at q
    exact q H2 (by walk_at "same")
  | false =>
  refine itF rfl ?_
  rw [if_neg (by rw [hd]; simp)] at q
  walk_at "rd"
  cases hd : wrongGaps z with
  | true =>
    refine itT rfl ?_
    rw [if_pos hd] at q
    exact q H2 (by walk_at "same")
  | false =>
  refine itF rfl ?_
  rw [if_neg (by rw [hd]; simp)] at q
  walk_at "rd"
  cases hd : wrongEnds z with
  | true =>
    refine itT rfl ?_
    rw [if_pos hd] at q
    exact q H2 (by walk_at "same")
  | false =>
  refine itF rfl ?_
  rw [if_neg (by rw [hd]; simp)] at q
  walk_at "rd"
  refine ⟨hz, fun t H3 s3 ht => ?_⟩
  obtain ⟨pb1, pb2, pb3⟩ := parts_b z
  obtain ⟨l1, b, ht, hl1, hb⟩ := ht
  refine ⟨t, _, rfl, SqT.of ht, rfl, _, _, rfl, _, _, rfl, _, _, rfl, rfl, ?_⟩
  walk_at "rd"
  refine or_list hb fun l2 H4 s4 h2 => ?_
  walk_at "rd"
  refine ⟨_, _, _, _, rfl, rfl, SqL.of (s4 _ _ hl1), SqL.of h2, ?_, fun l3 H5 s5 nl3 h3 => ?_⟩
  · rw [List.length_map, List.length_map]
    exact Nat.le_of_lt (sizeM (by omega))
  walk_at "rd"
  rw [← List.map_append] at h3
  refine ⟨⟨_, SqL.of h3⟩, fun D2 nD2 => ?_⟩
  refine lc_mp ((partsOf z).ahead ++ (partsOf z).behind.getD []) V.str (fun g => .bl (decide ((g.length : Int) < 5))) (walk_list (K := K) (a := l3)) (List.length_map ..) ?_ yat_map nD2 (fun _ s' => SqL.of (s' _ _ h3)) ?_ ?_
  · rw [List.length_append]; exact sizeM (by omega)
  · intro c hc H6 s6 Qe k
    refine ⟨rfl, ?_⟩
    walk_at "rd"
    have := pb3 c hc
    refine ⟨_, c.length, rfl, ⟨Nat.le_of_lt (sizeM (by omega)), rfl⟩, ?_⟩
    walk_at "rd"
    exact k H6 (Same.refl _)
  intro H6 s6 h6
  have e6 : ((partsOf z).ahead ++ (partsOf z).behind.getD []).map (fun g => V.bl (decide ((g.length : Int) < 5))) = (((partsOf z).ahead ++ (partsOf z).behind.getD []).map (fun g => decide ((g.length : Int) < 5))).map V.bl := by rw [List.map_map]; rfl
  rw [e6] at h6
  refine ⟨D2, _, rfl, SqL.of h6, ?_⟩
  have ea2 : (((partsOf z).ahead ++ (partsOf z).behind.getD []).map (fun g => decide ((g.length : Int) < 5))).all id = ((partsOf z).ahead ++ (partsOf z).behind.getD []).all (fun g => decide ((g.length : Int) < 5)) := by rw [List.all_map]; rfl
  walk_at "rd"
  rw [ea2]
  cases hd : ((partsOf z).ahead ++ (partsOf z).behind.getD []).all (fun g => decide ((g.length : Int) < 5)) with
  | false =>
    refine iteT ?_
    rw [if_pos hd] at q
    exact q H6 (by walk_at "same")
  | true =>
  refine iteF ?_
  rw [if_neg (by rw [hd]; simp)] at q
  walk_at "rd"
  refine ⟨l1, b, partsOf z, rfl, (s4.trans (s5.trans s6)) _ _ hl1, hb.same (s4.trans (s5.trans s6)), fun H7 s7 => ?_⟩
  walk_at "rd"
  cases hd : (partsOf z).wrong with
  | true =>
    refine iteT ?_
    rw [if_pos hd] at q
    exact q H7 (by walk_at "same")
  | false =>
    refine iteF ?_
    rw [if_neg (by rw [hd]; simp)] at q
    exact q H7 (by walk_at "same")
abbrev s_hex_number : Stmt := (top 25)
abbrev N_hex_number : List Str := [("group" : Str), ("found" : Str), ("sign" : Str)]
theorem sc_hex_number : FnScope N_hex_number [("group" : Str)] (defScope s_hex_number) := ⟨rfl, rfl, rfl, by decide +kernel, rfl, by decide +kernel, by decide +kernel⟩
def sp_hex_number (K : Frag) : Sp := fun vs H Q E => ∃ z : Str, vs = [.str z] ∧ z.length ≤ 100000 ∧ hexOk z ∧ Q (.int (hexNum z : Nat)) H
theorem ok_hex_number (T : Tx K mg) : FnG P w K mg base 1 "hex_number" (sp_hex_number K) := by
  refine ⟨fnr T.d_hex_number sc_hex_number (fun vs H Q E h => by obtain ⟨z, rfl, hz, hh, q⟩ := h; rfl) (fun _ _ _ _ _ _ us hl => match us, hl with | [_], _ => rfl) (fun cdv A outer s H vs Q E hr h => ?_), T.kp_hex_number, T.g_hex_number⟩
  have nd := sc_hex_number.nd
  have hu := hu_of hr
  obtain ⟨z, rfl, hz, hh, q⟩ := h
  refine ⟨_, PSs.nox (pss_cons (ps_set (i := 1) nd rfl (Or.inl rfl) pe_int)
        (pss_cons (ps_for PassesOwn.never rfl (pi_str (pe_lower (pv 0))) (pg_name (i := 2) nd rfl (Or.inl rfl))
        (pss_one (ps_set (i := 1) nd rfl (Or.inl rfl) (pe_op op_add (pe_op op_mul (pv 1) pe_int) (pe_bmS PySem.F.plainAttrs_str PySem.F.slot_str_index PySem.F.type_str_index (mt_indexX rfl takes0) (pe_gs T.s_HEX) (pa_cons (pv 2) pa_nil))))))
        (pss_one (ps_ret (pv 1))))), ?_⟩
  walk_at "rd"
  refine ⟨⟨_, rfl⟩, _, rfl, rfl, Nat.le_trans hz (by decide), ?_⟩
  walk_at "rd"
  refine for_str (fun i σ H2 => ∃ v2 : Option V, H2 = H ∧ σ = [some (.str z), some (.int (((tl (Txt.lower z)).take i).foldl (fun a c => a * 16 + hx c) 0 : Nat)), v2]) ⟨none, rfl, rfl⟩ ?_ ?_
  · rintro i c σ H2 hi ⟨v2, rfl, rfl⟩
    walk_at "rd"
    have hc : c ∈ hexD.cps.toList := hh c (List.mem_of_getElem? hi)
    refine ⟨fun k hk => ?_, fun hn => ?_⟩
    · have ek := (hx_at c hc).symm.trans hk
      injection ek with ek
      subst ek
      walk_at "rd"
      exact ⟨_, rfl, by rw [fold_take hi]; rfl⟩
    · rw [show Txt.index0 ("0123456789abcdef" : Str) ⟨#[c]⟩ = some (hx c) from hx_at c hc] at hn
      cases hn
  · rintro σ H2 ⟨v2, rfl, rfl⟩
    walk_at "rd"
    refine q_eq q ?_
    rw [List.take_length]; rfl
abbrev s_read_groups : Stmt := (top 26)
abbrev N_read_groups : List Str := [("text" : Str), ("why" : Str), ("ahead" : Str), ("behind" : Str), ("quad" : Str), ("last" : Str), ("first" : Str), ("number" : Str), ("more" : Str), ("found" : Str), ("group" : Str)]
theorem sc_read_groups : FnScope N_read_groups [("text" : Str)] (defScope s_read_groups) := ⟨rfl, rfl, rfl, by decide +kernel, rfl, by decide +kernel, by decide +kernel⟩
def sp_read_groups (K : Frag) : Sp := fun vs H Q E => ∃ z : Str, vs = [.str z] ∧ z.length ≤ 100000 ∧ g6Fault z = none ∧ (∀ g ∈ (partsOf z).ahead ++ (partsOf z).behind.getD [], hexOk g) ∧ ∀ H', Same H H' → Q (.int ((partsOf z).val : Nat)) H'
theorem ok_read_groups (T : Tx K mg) : FnG P w K mg base 5 "read_groups" (sp_read_groups K) := by
  have F_groups_fault := ok_groups_fault (P := P) (w := w) (base := base) T
  have F_parts_of := ok_parts_of (P := P) (w := w) (base := base) T
  have F_hex_number := ok_hex_number (P := P) (w := w) (base := base) T
  have F_read_quad := ok_read_quad (P := P) (w := w) (base := base) T
  refine ⟨fnr T.d_read_groups sc_read_groups (fun vs H Q E h => by obtain ⟨z, rfl, hz, hf, hh, q⟩ := h; rfl) (fun _ _ _ _ _ _ us hl => match us, hl with | [_], _ => rfl) (fun cdv A outer s H vs Q E hr h => ?_), T.kp_read_groups, T.g_read_groups⟩
  have nd := sc_read_groups.nd
  have hu := hu_of hr
  obtain ⟨z, rfl, hz, hf, hh, q⟩ := h
  refine ⟨_, PSs.nox (pss_cons (ps_set (i := 1) nd rfl (Or.inl rfl) (pe_f F_groups_fault (hr.mono (by decide)) passL (pa_cons (pv 0) pa_nil)))
        (pss_cons (ps_if (pt_cmpR op_notN (pv 1) pe_non (nomark _)) pss_never
        pss_nil)
        (pss_cons (ps_asg (pe_f F_parts_of (hr.mono (by decide)) passL (pa_cons (pv 0) pa_nil)) (pg_tup rfl (pgs_cons (pg_name (i := 2) nd rfl (Or.inl rfl)) (pgs_cons (pg_name (i := 3) nd rfl (Or.inl rfl)) (pgs_cons (pg_name (i := 4) nd rfl (Or.inl rfl)) pgs_nil)))))
        (pss_cons (ps_setLc (i := 5) (own := [("group", 10)]) rfl nd rfl rfl (sw_true rfl rfl rfl (by decide +kernel)) (i_list K (p_orT K (pv 3) (pe_one (p_lst pa_nil)))) (blkOk_by (own := [("group", 10)]) (N := N_read_groups) (sc := defScope s_read_groups) (by decide +kernel)) (fun _ _ _ _ _ => (pg_name (i := 10) nd rfl (Or.inl rfl))) (fun _ _ _ _ _ => pts_nil) (fun _ _ _ _ _ => (pe_f F_hex_number (hr.mono (by decide)) passL (pa_cons (pv 10) pa_nil))))
        (pss_cons (ps_setLc (i := 6) (own := [("group", 10)]) rfl nd rfl rfl (sw_true rfl rfl rfl (by decide +kernel)) (i_list K (pv 2)) (blkOk_by (own := [("group", 10)]) (N := N_read_groups) (sc := defScope s_read_groups) (by decide +kernel)) (fun _ _ _ _ _ => (pg_name (i := 10) nd rfl (Or.inl rfl))) (fun _ _ _ _ _ => pts_nil) (fun _ _ _ _ _ => (pe_f F_hex_number (hr.mono (by decide)) passL (pa_cons (pv 10) pa_nil))))
        (pss_cons (ps_if (pt_cmpR op_ne (pv 4) pe_str (nomark _)) (pss_cons (ps_set (i := 7) nd rfl (Or.inl rfl) (pe_f F_read_quad (hr.mono (by decide)) passL (pa_cons (pv 4) pa_nil)))
        (pss_cons (ps_set (i := 8) nd rfl (Or.inl rfl) (p_lst (pa_cons (pe_op op_shr (pv 7) pe_int) (pa_cons (pe_op op_and (pv 7) pe_int) pa_nil))))
        (pss_one (ps_asg (pe_ifExp (pt_cmpR op_notN (pv 3) pe_non (nomark _)) (p_tup (pa_cons (pv 6) (pa_cons (pe_op (o_catA K) (pv 5) (pv 8)) pa_nil))) (p_tup (pa_cons (pe_op (o_catA K) (pv 6) (pv 8)) (pa_cons (pv 5) pa_nil)))) (pg_tup rfl (pgs_cons (pg_name (i := 6) nd rfl (Or.inl rfl)) (pgs_cons (pg_name (i := 5) nd rfl (Or.inl rfl)) pgs_nil)))))))
        pss_nil)
        (pss_cons (ps_set (i := 9) nd rfl (Or.inl rfl) pe_int)
        (pss_cons (ps_for PassesOwn.never rfl (i_list K (pe_op (o_catA K) (pe_op (o_catA K) (pv 6) (pe_op o_repA (p_lst (pa_cons pe_int pa_nil)) (pe_op op_sub (pe_op op_sub pe_int (pe_callB (c_lenq K) (by rfl) T.f_len bb_len (pa_cons (pv 6) pa_nil))) (pe_callB (c_lenq K) (by rfl) T.f_len bb_len (pa_cons (pv 5) pa_nil))))) (pv 5))) (pg_name (i := 10) nd rfl (Or.inl rfl))
        (pss_one (ps_set (i := 9) nd rfl (Or.inl rfl) (pe_op op_add (pe_op op_mul (pv 9) pe_int) (pv 10)))))
        (pss_one (ps_ret (pv 9))))))))))), ?_⟩
  walk_at "rd"
  refine ⟨hz, fun H1 s1 => ?_⟩
  rw [hf]
  walk_at "rd"
  refine ⟨hz, fun t H2 s2 ht => ?_⟩
  obtain ⟨pb1, pb2, pb3⟩ := parts_b z
  obtain ⟨l1, b, ht, hl1, hb⟩ := ht
  refine ⟨t, _, rfl, SqT.of ht, rfl, _, _, rfl, _, _, rfl, _, _, rfl, rfl, ?_⟩
  walk_at "rd"
  refine or_list hb fun l2 H4 s4 h2 => ?_
  walk_at "rd"
  refine ⟨⟨_, SqL.of h2⟩, fun D1 nD1 => ?_⟩
  refine lc_mp ((partsOf z).behind.getD []) V.str (fun g => .int (hexNum g : Nat)) (walk_list (K := K) (a := l2)) (List.length_map ..) ?_ yat_map nD1 (fun _ s' => SqL.of (s' _ _ h2)) ?_ ?_
  · exact sizeM (by omega)
  · intro c hc H6 s6 Qe k
    refine ⟨rfl, ?_⟩
    walk_at "rd"
    have hc2 := List.mem_append_right (partsOf z).ahead hc
    have := pb3 c hc2
    exact ⟨by omega, hh c hc2, k H6 (Same.refl _)⟩
  intro H6 s6 h6
  have hl1' := (s4.trans s6) _ _ hl1
  walk_at "rd"
  refine ⟨⟨_, SqL.of hl1'⟩, fun D2 nD2 => ?_⟩
  refine lc_mp (partsOf z).ahead V.str (fun g => .int (hexNum g : Nat)) (walk_list (K := K) (a := l1)) (List.length_map ..) ?_ yat_map nD2 (fun _ s' => SqL.of (s' _ _ hl1')) ?_ ?_
  · exact sizeM (by omega)
  · intro c hc H7 s7 Qe k
    refine ⟨rfl, ?_⟩
    walk_at "rd"
    have hc2 := List.mem_append_left ((partsOf z).behind.getD []) hc
    have := pb3 c hc2
    exact ⟨by omega, hh c hc2, k H7 (Same.refl _)⟩
  intro H7 s7 h7
  have h6' := s7 _ _ h6
  have g1 : (partsOf z).ahead.map (fun g => V.int (hexNum g : Nat)) = ((partsOf z).ahead.map hexNum).map (fun n : Nat => V.int n) := by rw [List.map_map]; rfl
  have g2 : ((partsOf z).behind.getD []).map (fun g => V.int (hexNum g : Nat)) = (((partsOf z).behind.getD []).map hexNum).map (fun n : Nat => V.int n) := by rw [List.map_map]; rfl
  rw [g1] at h7
  rw [g2] at h6'
  walk_at "rd"
  by_cases hq : (partsOf z).quad = ("" : Str)
  · refine itF (by rw [decide_eq_true (by rw [hq])]; rfl) ?_
    obtain ⟨n1, n2⟩ := P6.noq hq
    obtain ⟨F, hF⟩ : ∃ F, F = (partsOf z).first := ⟨_, rfl⟩
    obtain ⟨L, hL⟩ : ∃ L, L = (partsOf z).last := ⟨_, rfl⟩
    have lf : F.length ≤ z.length + 3 := by rw [hF, ← n1, List.length_map]; omega
    have ll : L.length ≤ z.length + 3 := by rw [hL, ← n2, List.length_map]; omega
    rw [n1, ← hF] at h7
    rw [n2, ← hL] at h6'
    walk_at "rd"
    refine ⟨lz, fun e1 G1 f1 ne1 he1 => ?_⟩
    walk_at "rd"
    refine ⟨_, _, rfl, Or.inl (SqL.of (f1 _ _ h7)), ?_⟩
    walk_at "rd"
    refine ⟨_, _, rfl, Or.inl (SqL.of (f1 _ _ h6')), ?_⟩
    walk_at "rd"
    refine ⟨_, _, _, rfl, rfl, he1, ?_, ?_, ?_, fun e2 G2 f2 ne2 he2 => ?_⟩
    · rw [List.length_map, List.length_map]; omega
    · rw [List.length_map, List.length_map]; omega
    · rw [List.length_map, List.length_map]
      refine Nat.le_trans (m := 8) ?_ (by decide)
      show 1 * _ ≤ 8
      omega
    refine ⟨_, _, _, _, rfl, rfl, SqL.of ((f1.trans f2) _ _ h7), SqL.of he2, ?_, fun e3 G3 f3 ne3 he3 => ?_⟩
    · rw [rep_flat]
      simp only [List.length_map, List.length_replicate]
      exact Nat.le_of_lt (sizeM (by omega))
    walk_at "rd"
    have ek : (8 - (F.map natV).length - (L.map natV).length : Int).toNat = 8 - F.length - L.length := by rw [List.length_map, List.length_map]; omega
    rw [ek, rep_flat, ← List.map_append] at he3
    refine ⟨_, _, _, _, rfl, rfl, SqL.of he3, SqL.of ((f1.trans (f2.trans f3)) _ _ h6'), ?_, fun e4 G4 f4 ne4 he4 => ?_⟩
    · simp only [List.length_map, List.length_append, List.length_replicate]
      exact Nat.le_of_lt (sizeM (by omega))
    rw [← List.map_append] at he4
    refine ⟨_, rfl, ⟨_, SqL.of he4⟩, for_list (K := K) (a := e4) (xs := (F ++ List.replicate (8 - F.length - L.length) 0 ++ L).map natV) (fun i σ Hx => ∃ v7 v8 v10 : Option V, Same G4 Hx ∧ σ = [some (.str z), some .non, some (.ref l1), some b, some (.str (partsOf z).quad), some (.ref D1), some (.ref D2), v7, v8, some (.int (val16 ((F ++ List.replicate (8 - F.length - L.length) 0 ++ L).take i) : Nat)), v10])
      ⟨_, _, _, Same.refl _, rfl⟩ (fun i σ Hx _ ⟨_, _, _, sx, _⟩ => SqL.of (sx _ _ he4)) ?_ ?_⟩
    · rintro i y σ Hx hi ⟨v7, v8, v10, sx, rfl⟩
      rw [List.getElem?_map] at hi
      obtain ⟨n, hn, rfl⟩ := Option.map_eq_some_iff.mp hi
      walk_at "rd"
      refine ⟨v7, v8, some (natV n), sx, ?_⟩
      unfold val16
      rw [fold_take hn]
      rfl
    · rintro σ Hx ⟨v7, v8, v10, sx, rfl⟩
      walk_at "rd"
      rw [List.length_map, List.take_length]
      refine q_eq (q Hx (by walk_at "same")) ?_
      unfold P6.val
      rw [← hF, ← hL]
  · refine itT (by rw [decide_eq_false (fun e => hq (by injection e))]; rfl) ?_
    walk_at "rd"
    have eq := parts_quad z
    have ql := quad_len z
    refine ⟨by rw [eq]; omega, by rw [eq]; exact fault_quad hf (by rw [← eq]; exact hq), fun H8 s8 => ?_⟩
    walk_at "rd"
    obtain ⟨n, hn⟩ : ∃ n, n = quadVal (dots (tl (partsOf z).quad)) := ⟨_, rfl⟩
    rw [← hn]
    have ea := and65535 (x := ((n : Nat) : Int)) (by omega)
    refine ⟨lz, fun m1 H9 s9 nm1 hm1 => ?_⟩
    have h7' := (s8.trans s9) _ _ h7
    have h6'' := (s8.trans s9) _ _ h6'
    have hm2 : H9 m1 = some (.lst ([n / 65536, n % 65536].map natV)) := by
      rw [hm1]
      show some (HO.lst [V.int ((n : Int) / 2 ^ 16), V.int (Builtin.bitAnd (n : Int) 65535)]) = _
      rw [ea]
      rfl
    walk_at "rd"
    rw [opt_isN hb]
    cases hbn : (partsOf z).behind.isNone with
    | false =>
      obtain ⟨q1, q2⟩ := P6.q2 hq hn hbn
      refine iteT ?_
      walk_at "rd"
      refine ⟨_, _, _, _, rfl, rfl, SqL.of h6'', SqL.of hm2, ?_, fun l5 G5 f5 nl5 hl5 => ?_⟩
      · simp only [List.length_map]
        exact Nat.le_of_lt (sizeM (by show _ + 2 ≤ _; omega))
      walk_at "rd"
      refine ⟨lz, fun t5 G6 f6 nt5 ht5 => ?_⟩
      refine ⟨t5, _, rfl, SqT.of ht5, rfl, _, _, rfl, _, _, rfl, rfl, ?_⟩
      obtain ⟨F, hF⟩ : ∃ F, F = (partsOf z).first := ⟨_, rfl⟩
      obtain ⟨L, hL⟩ : ∃ L, L = (partsOf z).last := ⟨_, rfl⟩
      have lf : F.length ≤ z.length + 3 := by rw [hF, ← q2, List.length_map]; omega
      have ll : L.length ≤ z.length + 3 := by rw [hL, q1, List.length_append, List.length_map]; show _ + 2 ≤ _; omega
      have k7 := (f5.trans f6) _ _ h7'
      have k6 := f6 _ _ hl5
      rw [q2, ← hF] at k7
      rw [← List.map_append, ← q1, ← hL] at k6
      walk_at "rd"
      refine ⟨lz, fun e1 G1 f1 ne1 he1 => ?_⟩
      walk_at "rd"
      refine ⟨_, _, rfl, Or.inl (SqL.of (f1 _ _ k7)), ?_⟩
      walk_at "rd"
      refine ⟨_, _, rfl, Or.inl (SqL.of (f1 _ _ k6)), ?_⟩
      walk_at "rd"
      refine ⟨_, _, _, rfl, rfl, he1, ?_, ?_, ?_, fun e2 G2 f2 ne2 he2 => ?_⟩
      · rw [List.length_map, List.length_map]; omega
      · rw [List.length_map, List.length_map]; omega
      · rw [List.length_map, List.length_map]
        refine Nat.le_trans (m := 8) ?_ (by decide)
        show 1 * _ ≤ 8
        omega
      refine ⟨_, _, _, _, rfl, rfl, SqL.of ((f1.trans f2) _ _ k7), SqL.of he2, ?_, fun e3 G3 f3 ne3 he3 => ?_⟩
      · rw [rep_flat]
        simp only [List.length_map, List.length_replicate]
        exact Nat.le_of_lt (sizeM (by omega))
      walk_at "rd"
      have ek : (8 - (F.map natV).length - (L.map natV).length : Int).toNat = 8 - F.length - L.length := by rw [List.length_map, List.length_map]; omega
      rw [ek, rep_flat, ← List.map_append] at he3
      refine ⟨_, _, _, _, rfl, rfl, SqL.of he3, SqL.of ((f1.trans (f2.trans f3)) _ _ k6), ?_, fun e4 G4 f4 ne4 he4 => ?_⟩
      · simp only [List.length_map, List.length_append, List.length_replicate]
        exact Nat.le_of_lt (sizeM (by omega))
      rw [← List.map_append] at he4
      refine ⟨_, rfl, ⟨_, SqL.of he4⟩, for_list (K := K) (a := e4) (xs := (F ++ List.replicate (8 - F.length - L.length) 0 ++ L).map natV) (fun i σ Hx => ∃ v7 v8 v10 : Option V, Same G4 Hx ∧ σ = [some (.str z), some .non, some (.ref l1), some b, some (.str (partsOf z).quad), some (.ref l5), some (.ref D2), v7, v8, some (.int (val16 ((F ++ List.replicate (8 - F.length - L.length) 0 ++ L).take i) : Nat)), v10])
        ⟨_, _, _, Same.refl _, rfl⟩ (fun i σ Hx _ ⟨_, _, _, sx, _⟩ => SqL.of (sx _ _ he4)) ?_ ?_⟩
      · rintro i y σ Hx hi ⟨v7, v8, v10, sx, rfl⟩
        rw [List.getElem?_map] at hi
        obtain ⟨n, hn, rfl⟩ := Option.map_eq_some_iff.mp hi
        walk_at "rd"
        refine ⟨v7, v8, some (natV n), sx, ?_⟩
        unfold val16
        rw [fold_take hn]
        rfl
      · rintro σ Hx ⟨v7, v8, v10, sx, rfl⟩
        walk_at "rd"
        rw [List.length_map, List.take_length]
        refine q_eq (q Hx (by walk_at "same")) ?_
        unfold P6.val
        rw [← hF, ← hL]
    | true =>
      obtain ⟨q1, q2⟩ := P6.q1 hq hn hbn
      refine iteF ?_
      walk_at "rd"
      refine ⟨_, _, _, _, rfl, rfl, SqL.of h7', SqL.of hm2, ?_, fun l5 G5 f5 nl5 hl5 => ?_⟩
      · simp only [List.length_map]
        exact Nat.le_of_lt (sizeM (by show _ + 2 ≤ _; omega))
      walk_at "rd"
      refine ⟨lz, fun t5 G6 f6 nt5 ht5 => ?_⟩
      refine ⟨t5, _, rfl, SqT.of ht5, rfl, _, _, rfl, _, _, rfl, rfl, ?_⟩
      obtain ⟨F, hF⟩ : ∃ F, F = (partsOf z).first := ⟨_, rfl⟩
      obtain ⟨L, hL⟩ : ∃ L, L = (partsOf z).last := ⟨_, rfl⟩
      have lf : F.length ≤ z.length + 3 := by rw [hF, q1, List.length_append, List.length_map]; show _ + 2 ≤ _; omega
      have ll : L.length ≤ z.length + 3 := by rw [hL, ← q2, List.length_map]; omega
      have k7 := f6 _ _ hl5
      have k6 := (f5.trans f6) _ _ h6''
      rw [← List.map_append, ← q1, ← hF] at k7
      rw [q2, ← hL] at k6
      walk_at "rd"
      refine ⟨lz, fun e1 G1 f1 ne1 he1 => ?_⟩
      walk_at "rd"
      refine ⟨_, _, rfl, Or.inl (SqL.of (f1 _ _ k7)), ?_⟩
      walk_at "rd"
      refine ⟨_, _, rfl, Or.inl (SqL.of (f1 _ _ k6)), ?_⟩
      walk_at "rd"
      refine ⟨_, _, _, rfl, rfl, he1, ?_, ?_, ?_, fun e2 G2 f2 ne2 he2 => ?_⟩
      · rw [List.length_map, List.length_map]; omega
      · rw [List.length_map, List.length_map]; omega
      · rw [List.length_map, List.length_map]
        refine Nat.le_trans (m := 8) ?_ (by decide)
        show 1 * _ ≤ 8
        omega
      refine ⟨_, _, _, _, rfl, rfl, SqL.of ((f1.trans f2) _ _ k7), SqL.of he2, ?_, fun e3 G3 f3 ne3 he3 => ?_⟩
      · rw [rep_flat]
        simp only [List.length_map, List.length_replicate]
        exact Nat.le_of_lt (sizeM (by omega))
      walk_at "rd"
      have ek : (8 - (F.map natV).length - (L.map natV).length : Int).toNat = 8 - F.length - L.length := by rw [List.length_map, List.length_map]; omega
      rw [ek, rep_flat, ← List.map_append] at he3
      refine ⟨_, _, _, _, rfl, rfl, SqL.of he3, SqL.of ((f1.trans (f2.trans f3)) _ _ k6), ?_, fun e4 G4 f4 ne4 he4 => ?_⟩
      · simp only [List.length_map, List.length_append, List.length_replicate]
        exact Nat.le_of_lt (sizeM (by omega))
      rw [← List.map_append] at he4
      refine ⟨_, rfl, ⟨_, SqL.of he4⟩, for_list (K := K) (a := e4) (xs := (F ++ List.replicate (8 - F.length - L.length) 0 ++ L).map natV) (fun i σ Hx => ∃ v7 v8 v10 : Option V, Same G4 Hx ∧ σ = [some (.str z), some .non, some (.ref l1), some b, some (.str (partsOf z).quad), some (.ref D1), some (.ref l5), v7, v8, some (.int (val16 ((F ++ List.replicate (8 - F.length - L.length) 0 ++ L).take i) : Nat)), v10])
        ⟨_, _, _, Same.refl _, rfl⟩ (fun i σ Hx _ ⟨_, _, _, sx, _⟩ => SqL.of (sx _ _ he4)) ?_ ?_⟩
      · rintro i y σ Hx hi ⟨v7, v8, v10, sx, rfl⟩
        rw [List.getElem?_map] at hi
        obtain ⟨n, hn, rfl⟩ := Option.map_eq_some_iff.mp hi
        walk_at "rd"
        refine ⟨v7, v8, some (natV n), sx, ?_⟩
        unfold val16
        rw [fold_take hn]
        rfl
      · rintro σ Hx ⟨v7, v8, v10, sx, rfl⟩
        walk_at "rd"
        rw [List.length_map, List.take_length]
        refine q_eq (q Hx (by walk_at "same")) ?_
        unfold P6.val
        rw [← hF, ← hL]
def hd16 (d : Nat) : Nat := (Nat.digitChar d).toNat
theorem hexL_lt {n : Nat} (h : n < 16) : hexL n = [hd16 n] := by
  unfold hexL
  rw [Nat.toDigits_of_lt_base h]; rfl
theorem hexL_step {n : Nat} (h : 16 ≤ n) : hexL n = hexL (n / 16) ++ [hd16 (n % 16)] := by
  have hm : n % 16 < 16 := Nat.mod_lt n (by decide)
  have t : Nat.toDigits 16 (n / 16) ++ Nat.toDigits 16 (n % 16) = Nat.toDigits 16 (16 * (n / 16) + n % 16) := Nat.toDigits_append_toDigits (by decide) (by omega) hm
  rw [Nat.div_add_mod] at t
  show (Nat.toDigits 16 n).map Char.toNat = _
  rw [← t, List.map_append, Nat.toDigits_of_lt_base hm]; rfl
theorem hd16_ok : ∀ d, d < 16 → hd16 d ∈ hexD.cps.toList ∧ hx (hd16 d) = d ∧ lo1 (hd16 d) = hd16 d ∧ hd16 d < 128 := by decide +kernel
theorem hexL_all (n : Nat) : ∀ c ∈ hexL n, ∃ d, d < 16 ∧ c = hd16 d := by
  induction n using Nat.strongRecOn with
  | _ n ih =>
    by_cases h : n < 16
    · rw [hexL_lt h]
      intro c hc
      exact ⟨n, h, List.mem_singleton.mp hc⟩
    · rw [hexL_step (by omega)]
      intro c hc
      rcases List.mem_append.mp hc with hc | hc
      · exact ih (n / 16) (by omega) c hc
      · exact ⟨n % 16, Nat.mod_lt n (by decide), List.mem_singleton.mp hc⟩
def hval (l : List Nat) : Nat := l.foldl (fun a c => a * 16 + hx c) 0
theorem hexL_val (n : Nat) : hval (hexL n) = n := by
  induction n using Nat.strongRecOn with
  | _ n ih =>
    by_cases h : n < 16
    · rw [hexL_lt h]
      show 0 * 16 + hx (hd16 n) = n
      rw [(hd16_ok n h).2.1]; omega
    · rw [hexL_step (by omega)]
      unfold hval
      rw [List.foldl_append]
      show hval (hexL (n / 16)) * 16 + hx (hd16 (n % 16)) = n
      rw [ih (n / 16) (by omega), (hd16_ok _ (Nat.mod_lt n (by decide))).2.1]; omega
theorem hexL_len {n k : Nat} (hk : 1 ≤ k) (h : n < 16 ^ k) : (hexL n).length ≤ k := by
  induction k generalizing n with
  | zero => omega
  | succ k ih =>
    by_cases hn : n < 16
    · rw [hexL_lt hn]; simp
    · rw [hexL_step (by omega), List.length_append]
      rw [Nat.pow_succ] at h
      by_cases k0 : k = 0
      · subst k0; omega
      · have := ih (n := n / 16) (by omega) (by omega)
        simp; omega
theorem hexL_pos (n : Nat) : 1 ≤ (hexL n).length := by
  by_cases hn : n < 16
  · rw [hexL_lt hn]; simp
  · rw [hexL_step (by omega), List.length_append]; simp
theorem hexS_tl (n : Nat) : tl (hexS n) = hexL n := rfl
theorem hexZ_tl (W n : Nat) : tl (hexZ W n) = List.replicate (W - (hexL n).length) 48 ++ hexL n := rfl
theorem hexS_len {n : Nat} (h : n < 65536) : (hexS n).length ≤ 4 := by
  rw [len_tl, hexS_tl]; exact hexL_len (by decide) h
theorem hexZ_len {n : Nat} (h : n < 65536) : (hexZ 4 n).length = 4 := by
  have := hexL_len (k := 4) (by decide) h
  rw [len_tl, hexZ_tl, List.length_append, List.length_replicate]; omega
theorem sum_le {α : Type} {f : α → Nat} {k : Nat} : ∀ {xs : List α}, (∀ x ∈ xs, f x ≤ k) → (xs.map f).sum ≤ xs.length * k
  | [], _ => Nat.zero_le _
  | x :: r, h => by
    have a := h x (List.mem_cons_self ..)
    have b := sum_le (xs := r) fun y hy => h y (List.mem_cons_of_mem _ hy)
    rw [List.map_cons, List.sum_cons, List.length_cons, Nat.succ_mul]; omega
theorem join_sz {z : Str} {xs : List Str} {k : Nat} (hz : z.length ≤ 2) (h : ∀ x ∈ xs, x.length ≤ k) (hk : k ≤ 100) (hn : xs.length ≤ 1000) : (xs.map fun x => x.length).sum + xs.length * z.length ≤ 16777216 := by
  have a := sum_le (f := fun x : Str => x.length) h
  have b : xs.length * k ≤ 1000 * 100 := Nat.mul_le_mul hn hk
  have c : xs.length * z.length ≤ 1000 * 2 := Nat.mul_le_mul hn hz
  omega
theorem join_len {z : Str} {xs : List Str} {k : Nat} (h : ∀ x ∈ xs, x.length ≤ k) : (Txt.join z xs).length ≤ xs.length * (k + z.length) := by
  have a := joinL_len (tl z) (xs.map tl)
  have b := sum_le (f := fun x : Str => x.length) h
  have e : ((xs.map tl).map List.length) = xs.map fun x => x.length := by rw [List.map_map]; exact List.map_congr_left fun x _ => (len_tl x).symm
  rw [e, List.length_map, ← len_tl z] at a
  rw [join_eq, len_tl, tl_join, Nat.mul_add]
  omega
theorem Str_len_app (a b : Str) : (a ++ b).length = a.length + b.length := by rw [len_tl, tl_append, List.length_append, ← len_tl, ← len_tl]
theorem colon1 : (":" : Str).length ≤ 2 := by decide +kernel
theorem cutV_take (xs : List V) (b : Nat) : cutV xs none (some (b : Int)) = xs.take b := by
  unfold cutV
  rw [HT.sIx_none, HT.sIx_nat, List.drop_zero, Nat.sub_zero]
  rcases Nat.le_total b xs.length with h | h
  · rw [Nat.min_eq_left h]
  · rw [Nat.min_eq_right h, List.take_length, List.take_of_length_le h]
theorem cutV_drop (xs : List V) (b : Nat) : cutV xs (some (b : Int)) none = xs.drop b := by
  unfold cutV
  rw [HT.sIx_none, HT.sIx_nat]
  rcases Nat.le_total b xs.length with h | h
  · rw [Nat.min_eq_left h]
    exact List.take_of_length_le (by rw [List.length_drop]; omega)
  · rw [Nat.min_eq_right h, List.drop_length, List.drop_eq_nil_iff.mpr h]; simp
def gN (n : Int) : List Nat := [112, 96, 80, 64, 48, 32, 16, 0].map fun s : Nat => (n / 2 ^ s % 65536).toNat
def lrGo : Nat → Nat → Nat → Nat → List Bool → Nat × Nat
  | _, best, many, _, [] => (best, many)
  | i, best, many, begin_, b :: r => if b = false then lrGo (i + 1) best many (i + 1) r else if many < i + 1 - begin_ then lrGo (i + 1) begin_ (i + 1 - begin_) begin_ r else lrGo (i + 1) best many begin_ r
def zs (gs : List Nat) : List Bool := gs.map fun g => decide (g = 0)
def lr (gs : List Nat) : Nat × Nat := lrGo 0 0 0 0 (zs gs)
def g6T (gs : List Nat) (b m : Nat) : Str := if m < 2 then Txt.join (":" : Str) (gs.map hexS) else Txt.join (":" : Str) ((gs.take b).map hexS) ++ ("::" : Str) ++ Txt.join (":" : Str) ((gs.drop (b + m)).map hexS)
def g6S (n : Int) : Str := g6T (gN n) (lr (gN n)).1 (lr (gN n)).2
def f6S (n : Int) : Str := Txt.join (":" : Str) ((gN n).map (hexZ 4))
theorem gN_range (n : Int) : gN n = (List.range 8).map fun i : Nat => (n / 2 ^ (112 - 16 * i) % 65536).toNat := rfl
theorem gN_len (n : Int) : (gN n).length = 8 := rfl
theorem gN_b (n : Int) : ∀ g ∈ gN n, g < 65536 := by
  intro g hg
  obtain ⟨s, _, rfl⟩ := List.mem_map.mp hg
  omega
theorem yrange {n : Nat} {lo : Int} : ∀ (i : Nat) (H : Hp) (x : V) (H' : Hp), YFn (fun i => .int (lo + i)) i H x H' → i < n → H' = H ∧ ∃ c, (List.range n)[i]? = some c ∧ x = V.int (lo + c) := fun i H x H' h hi =>
  ⟨h.1, i, by rw [List.getElem?_range hi], h.2⟩
abbrev s_group_numbers : Stmt := (top 27)
abbrev N_group_numbers : List Str := [("number" : Str), ("place" : Str)]
theorem sc_group_numbers : FnScope N_group_numbers [("number" : Str)] (defScope s_group_numbers) := ⟨rfl, rfl, rfl, by decide +kernel, rfl, by decide +kernel, by decide +kernel⟩
def sp_group_numbers (K : Frag) : Sp := fun vs H Q E => ∃ n : Int, vs = [.int n] ∧ 0 ≤ n ∧ ∀ (p : Addr) (H' : Hp), Same H H' → H p = none → H' p = some (.lst ((gN n).map natV)) → Q (.ref p) H'
theorem ok_group_numbers (T : Tx K mg) : FnG P w K mg base 1 "group_numbers" (sp_group_numbers K) := by
  refine ⟨fnr T.d_group_numbers sc_group_numbers (fun vs H Q E h => by obtain ⟨n, rfl, h0, q⟩ := h; rfl) (fun _ _ _ _ _ _ us hl => match us, hl with | [_], _ => rfl) (fun cdv A outer s H vs Q E hr h => ?_), T.kp_group_numbers, T.g_group_numbers⟩
  have nd := sc_group_numbers.nd
  have hu := hu_of hr
  obtain ⟨n, rfl, h0, q⟩ := h
  refine ⟨_, PSs.nox (pss_one (ps_ret (pe_lc (own := [("place", 1)]) rfl nd (pi_range1 (by rfl) T.f_range (pa_cons pe_int pa_nil)) (blkOk_by (own := [("place", 1)]) (N := N_group_numbers) (sc := defScope s_group_numbers) (by decide +kernel)) (fun _ _ _ _ _ => (pg_name (i := 1) nd rfl (Or.inl rfl))) (fun _ _ _ _ _ => pts_nil) (fun _ _ _ _ _ => (pe_op op_and (pe_op op_shr (pv 0) (pe_op op_sub pe_int (pe_op op_mul pe_int (pv 1)))) pe_int))))), ?_⟩
  walk_at "rd"
  refine ⟨by decide, by decide, fun D nD => ?_⟩
  refine lc_mpr 8 (fun i => V.int (0 + (i : Nat))) (fun i : Nat => natV (n / 2 ^ (112 - 16 * i) % 65536).toNat) (walk_range (lo := 0) (n := 8)) (by decide) (fun i H x H' h => h) nD (fun _ _ => trivial) ?_ ?_
  · intro i hi H1 s1 Qe k
    refine ⟨rfl, ?_⟩
    walk_at "rd"
    have et : (112 - 16 * (0 + (i : Int))).toNat = 112 - 16 * i := by omega
    refine q_eq (k H1 (Same.refl _)) ?_
    show _ = V.int (Builtin.bitAnd (n / 2 ^ (112 - 16 * (0 + (i : Int))).toNat) 65535)
    rw [et, and65535 (Int.ediv_nonneg h0 (by have := pow_pos' (112 - 16 * i); omega))]
    show V.int (((n / 2 ^ (112 - 16 * i) % 65536).toNat : Nat) : Int) = _
    rw [Int.toNat_of_nonneg (by omega)]
  intro H1 s1 h1
  walk_at "rd"
  exact q D H1 s1 nD (by rw [h1, gN_range, List.map_map]; rfl)
abbrev s_longest_run : Stmt := (top 28)
abbrev N_longest_run : List Str := [("numbers" : Str), ("best" : Str), ("many" : Str), ("begin" : Str), ("place" : Str), ("number" : Str)]
theorem sc_longest_run : FnScope N_longest_run [("numbers" : Str)] (defScope s_longest_run) := ⟨rfl, rfl, rfl, by decide +kernel, rfl, by decide +kernel, by decide +kernel⟩
def sp_longest_run (K : Frag) : Sp := fun vs H Q E => ∃ (l : Addr) (gs : List Nat), vs = [.ref l] ∧ H l = some (.lst (gs.map natV)) ∧ gs.length ≤ 1000 ∧ ∀ (p : Addr) (H' : Hp), Same H H' → H p = none → H' p = some (.tup [natV (lr gs).1, natV (lr gs).2]) → Q (.ref p) H'
theorem ok_longest_run (T : Tx K mg) : FnG P w K mg base 1 "longest_run" (sp_longest_run K) := by
  refine ⟨fnr T.d_longest_run sc_longest_run (fun vs H Q E h => by obtain ⟨l, gs, rfl, hl, hz, q⟩ := h; rfl) (fun _ _ _ _ _ _ us hl => match us, hl with | [_], _ => rfl) (fun cdv A outer s H vs Q E hr h => ?_), T.kp_longest_run, T.g_longest_run⟩
  have nd := sc_longest_run.nd
  have hu := hu_of hr
  obtain ⟨l, gs, rfl, hl, hz, q⟩ := h
  refine ⟨_, PSs.nox (pss_cons (ps_asg (p_tup (pa_cons pe_int (pa_cons pe_int pa_nil))) (pg_tup rfl (pgs_cons (pg_name (i := 1) nd rfl (Or.inl rfl)) (pgs_cons (pg_name (i := 2) nd rfl (Or.inl rfl)) pgs_nil))))
        (pss_cons (ps_set (i := 3) nd rfl (Or.inl rfl) pe_int)
        (pss_cons (ps_for PassesOwn.never rfl (pi_enum (by rfl) T.f_enumerate (pa_cons (pv 0) pa_nil)) (pg_tup rfl (pgs_cons (pg_name (i := 4) nd rfl (Or.inl rfl)) (pgs_cons (pg_name (i := 5) nd rfl (Or.inl rfl)) pgs_nil)))
        (pss_one (ps_if (pt_cmpR op_ne (pv 5) pe_int (nomark _)) (pss_one (ps_set (i := 3) nd rfl (Or.inl rfl) (pe_op op_add (pv 4) pe_int)))
        (pss_one (ps_if (pt_cmpR op_gt (pe_op op_sub (pe_op op_add (pv 4) pe_int) (pv 3)) (pv 2) (nomark _)) (pss_one (ps_par (i := 1) (j := 2) (by rfl) nd rfl rfl (by decide) rfl rfl (pa_cons (pv 3) (pa_cons (pe_op op_sub (pe_op op_add (pv 4) pe_int) (pv 3)) pa_nil)) (by rfl)))
        pss_nil)))))
        (pss_one (ps_ret (p_tup (pa_cons (pv 1) (pa_cons (pv 2) pa_nil)))))))), ?_⟩
  refine ⟨lz, fun t0 H0 s0 nt0 ht0 => ?_⟩
  refine ⟨t0, _, rfl, SqT.of ht0, rfl, _, _, rfl, _, _, rfl, rfl, ?_⟩
  walk_at "rd"
  refine ⟨l, _, rfl, SqL.of (s0 _ _ hl), ?_⟩
  refine for_it (walk_enum (K := K) (a := l) (xs := gs.map natV)) (fun i σ Hx => ∃ (best many beg : Nat) (v4 v5 : Option V), Same H Hx ∧ beg ≤ i ∧ lrGo i best many beg ((zs gs).drop i) = lr gs ∧ σ = [some (.ref l), some (natV best), some (natV many), some (natV beg), v4, v5]) ?_ ?_ ?_ ?_
  · exact ⟨0, 0, 0, none, none, s0, Nat.le_refl _, rfl, rfl⟩
  · rintro i σ Hx hi ⟨best, many, beg, v4, v5, sx, _⟩
    exact SqL.of (sx _ _ hl)
  · rintro i x σ Hx Hy hi ⟨best, many, beg, v4, v5, sx, hb, hg, rfl⟩ ⟨T0, x1, x2, rfl, nT, rfl, e1, e2⟩
    cases e1
    replace e2 : (gs.map natV)[i]? = some x2 := e2
    rw [List.getElem?_map] at e2
    obtain ⟨g, hgi, rfl⟩ := Option.map_eq_some_iff.mp e2
    have hd : (zs gs).drop i = decide (g = 0) :: (zs gs).drop (i + 1) := by
      have hlt : i < gs.length := (List.getElem?_eq_some_iff.mp hgi).1
      unfold zs
      rw [← List.map_drop, List.drop_eq_getElem_cons hlt, (List.getElem?_eq_some_iff.mp hgi).2, List.map_cons, List.map_drop]
    rw [hd] at hg
    have sy : Same H (upd Hx T0 (.tup [natV i, natV g])) := same_new sx nT
    refine ⟨T0, _, rfl, SqT.of upd_same, rfl, _, _, rfl, _, _, rfl, rfl, ?_⟩
    walk_at "rd"
    by_cases g0 : g = 0
    · refine itF (by rw [g0]; rfl) ?_
      unfold lrGo at hg
      rw [if_neg (by simp [g0])] at hg
      walk_at "rd"
      by_cases hm : many < i + 1 - beg
      · refine itT (decide_eq_true (by omega)) ?_
        rw [if_pos hm] at hg
        walk_at "rd"
        refine ⟨_, _, rfl, beg, i + 1 - beg, beg, some (natV i), some (natV g), sy, by omega, hg, ?_⟩
        have ec : ((i + 1 - beg : Nat) : Int) = (i : Int) + 1 - beg := by omega
        rw [show natV (i + 1 - beg) = V.int ((i : Int) + 1 - beg) from congrArg V.int ec]
        rfl
      · refine itF (decide_eq_false (by omega)) ?_
        rw [if_neg hm] at hg
        walk_at "rd"
        exact ⟨best, many, beg, _, _, sy, by omega, hg, rfl⟩
    · refine itT (by rw [decide_eq_false (fun e => g0 (by injection e; omega))]; rfl) ?_
      unfold lrGo at hg
      rw [if_pos (by simp [g0])] at hg
      walk_at "rd"
      exact ⟨best, many, i + 1, _, _, sy, by omega, hg, rfl⟩
  · rintro σ Hx ⟨best, many, beg, v4, v5, sx, hb, hg, rfl⟩
    have hd : (zs gs).drop (gs.map natV).length = [] := by unfold zs; rw [List.length_map, List.drop_eq_nil_iff, List.length_map]; omega
    rw [hd] at hg
    have hg : (best, many) = lr gs := hg
    walk_at "rd"
    refine ⟨lz, fun t1 H1 s1 nt1 ht1 => ?_⟩
    refine q t1 H1 (sx.trans s1) (sx.free nt1) ?_
    rw [← hg]
    exact ht1
abbrev s_groups_text : Stmt := (top 29)
abbrev N_groups_text : List Str := [("number" : Str), ("numbers" : Str), ("begin" : Str), ("many" : Str), ("texts" : Str), ("one" : Str)]
theorem sc_groups_text : FnScope N_groups_text [("number" : Str)] (defScope s_groups_text) := ⟨rfl, rfl, rfl, by decide +kernel, rfl, by decide +kernel, by decide +kernel⟩
def sp_groups_text (K : Frag) : Sp := fun vs H Q E => ∃ n : Int, vs = [.int n] ∧ 0 ≤ n ∧ ∀ H', Same H H' → Q (.str (g6S n)) H'
theorem ok_groups_text (T : Tx K mg) : FnG P w K mg base 2 "groups_text" (sp_groups_text K) := by
  have F_group_numbers := ok_group_numbers (P := P) (w := w) (base := base) T
  have F_longest_run := ok_longest_run (P := P) (w := w) (base := base) T
  refine ⟨fnr T.d_groups_text sc_groups_text (fun vs H Q E h => by obtain ⟨n, rfl, h0, q⟩ := h; rfl) (fun _ _ _ _ _ _ us hl => match us, hl with | [_], _ => rfl) (fun cdv A outer s H vs Q E hr h => ?_), T.kp_groups_text, T.g_groups_text⟩
  have nd := sc_groups_text.nd
  have hu := hu_of hr
  obtain ⟨n, rfl, h0, q⟩ := h
  refine ⟨_, PSs.nox (pss_cons (ps_set (i := 1) nd rfl (Or.inl rfl) (pe_f F_group_numbers (hr.mono (by decide)) passL (pa_cons (pv 0) pa_nil)))
        (pss_cons (ps_asg (pe_f F_longest_run (hr.mono (by decide)) passL (pa_cons (pv 1) pa_nil)) (pg_tup rfl (pgs_cons (pg_name (i := 2) nd rfl (Or.inl rfl)) (pgs_cons (pg_name (i := 3) nd rfl (Or.inl rfl)) pgs_nil))))
        (pss_cons (ps_setLc (i := 4) (own := [("one", 5)]) rfl nd rfl rfl (sw_true rfl rfl rfl (by decide +kernel)) (i_list K (pv 1)) (blkOk_by (own := [("one", 5)]) (N := N_groups_text) (sc := defScope s_groups_text) (by decide +kernel)) (fun _ _ _ _ _ => (pg_name (i := 5) nd rfl (Or.inl rfl))) (fun _ _ _ _ _ => pts_nil) (fun _ _ _ _ _ => (pe_joined1 (pe_fmtX (pv 5)))))
        (pss_cons (ps_if (pt_cmpR op_lt (pv 3) pe_int (nomark _)) (pss_one (ps_ret (pe_join pe_str (pv 4))))
        pss_nil)
        (pss_one (ps_ret (pe_op op_add_str (pe_op op_add_str (pe_join pe_str (pe_slice (s_listA K) (pv 4) po_none (po_some (pv 2)))) pe_str) (pe_join pe_str (pe_slice (s_listA K) (pv 4) (po_some (pe_op op_add (pv 2) (pv 3))) po_none))))))))), ?_⟩
  walk_at "rd"
  refine ⟨h0, fun l H1 s1 nl hl => ?_⟩
  walk_at "rd"
  refine ⟨_, _, rfl, hl, by rw [gN_len]; decide, fun t H2 s2 nt ht => ?_⟩
  refine ⟨t, _, rfl, SqT.of ht, rfl, _, _, rfl, _, _, rfl, rfl, ?_⟩
  have hl2 := s2 _ _ hl
  walk_at "rd"
  refine ⟨⟨_, SqL.of hl2⟩, fun D nD => ?_⟩
  refine lc_mp (gN n) natV (fun g => .str (hexS g)) (walk_list (K := K) (a := l)) (List.length_map ..) (by rw [gN_len]; decide) yat_map nD (fun _ s' => SqL.of (s' _ _ hl2)) ?_ ?_
  · intro c hc H3 s3 Qe k
    refine ⟨rfl, ?_⟩
    walk_at "rd"
    exact ⟨sizeL (Nat.le_trans (hexS_len (gN_b n c hc)) (by decide)), k H3 (Same.refl _)⟩
  intro H3 s3 h3
  have e3 : (gN n).map (fun g => V.str (hexS g)) = ((gN n).map hexS).map V.str := by rw [List.map_map]; rfl
  rw [e3] at h3
  walk_at "rd"
  by_cases hm : (lr (gN n)).2 < 2
  · refine itT (decide_eq_true (by omega)) ?_
    refine ⟨⟨_, rfl⟩, ?_⟩
    walk_at "rd"
    refine ⟨_, _, (gN n).map hexS, rfl, rfl, Or.inl (SqL.of h3), ?_, q_eq (q H3 (by walk_at "same")) ?_⟩
    · exact join_sz colon1 (fa_map fun g hg => hexS_len (gN_b n g hg)) (by decide) (by rw [List.length_map, gN_len]; decide)
    · unfold g6S g6T
      rw [if_pos hm]
  · refine itF (decide_eq_false (by omega)) ?_
    refine ⟨⟨_, rfl⟩, ?_⟩
    walk_at "rd"
    refine ⟨_, _, rfl, SqL.of h3, fun l4 H4 s4 nl4 h4 => ?_⟩
    rw [show natV (lr (gN n)).1 = V.int _ from rfl] at *
    refine ⟨_, _, ((gN n).take (lr (gN n)).1).map hexS, rfl, rfl, Or.inl (SqL.of (by rw [h4, cutV_take, List.map_take, List.map_take])), ?_, ?_⟩
    · exact join_sz colon1 (fa_map fun g hg => hexS_len (gN_b n g (List.mem_of_mem_take hg))) (by decide) (by rw [List.length_map, List.length_take, gN_len]; omega)
    have j1 : (Txt.join (":" : Str) (((gN n).take (lr (gN n)).1).map hexS)).length ≤ 8 * (4 + 1) := Nat.le_trans (join_len (k := 4) (fa_map fun g hg => hexS_len (gN_b n g (List.mem_of_mem_take hg)))) (Nat.mul_le_mul_right _ (by rw [List.length_map, List.length_take, gN_len]; omega))
    have j2 : (Txt.join (":" : Str) (((gN n).drop ((lr (gN n)).1 + (lr (gN n)).2)).map hexS)).length ≤ 8 * (4 + 1) := Nat.le_trans (join_len (k := 4) (fa_map fun g hg => hexS_len (gN_b n g (List.mem_of_mem_drop hg)))) (Nat.mul_le_mul_right _ (by rw [List.length_map, List.length_drop, gN_len]; omega))
    have c2 : ("::" : Str).length = 2 := by decide +kernel
    walk_at "rd"
    refine ⟨by rw [c2]; exact sizeL (by omega), ?_⟩
    refine ⟨⟨_, rfl⟩, ?_⟩
    walk_at "rd"
    refine ⟨_, _, rfl, SqL.of (s4 _ _ h3), fun l5 H5 s5 nl5 h5 => ?_⟩
    refine ⟨_, _, ((gN n).drop ((lr (gN n)).1 + (lr (gN n)).2)).map hexS, rfl, rfl, Or.inl (SqL.of ?_), ?_, ?_⟩
    · rw [h5]
      have ei : ((lr (gN n)).1 : Int) + ((lr (gN n)).2 : Int) = (((lr (gN n)).1 + (lr (gN n)).2 : Nat) : Int) := by omega
      rw [ei, cutV_drop, List.map_drop, List.map_drop]
    · exact join_sz colon1 (fa_map fun g hg => hexS_len (gN_b n g (List.mem_of_mem_drop hg))) (by decide) (by rw [List.length_map, List.length_drop, gN_len]; omega)
    refine ⟨_, _, rfl, rfl, ?_, ?_⟩
    · rw [Str_len_app, c2]; exact sizeL (by omega)
    refine q_eq (q H5 (by walk_at "same")) ?_
    unfold g6S g6T
    rw [if_neg hm]
/-! ### texts by their parts between the colons -/
abbrev J (ss : List (List Nat)) : List Nat := joinL [58] ss
theorem J_cons2 (s t : List Nat) (r : List (List Nat)) : J (s :: t :: r) = s ++ 58 :: J (t :: r) := rfl
theorem sp1_J (acc l : List Nat) : J (sp1 58 acc l) = acc ++ l := by
  induction l generalizing acc with
  | nil => show acc = acc ++ []; rw [List.append_nil]
  | cons c r ih =>
    unfold sp1
    split
    · rename_i h
      have e := ih []
      cases hs : sp1 58 [] r with
      | nil =>
        rw [hs] at e
        cases r with
        | nil => cases hs
        | cons c2 r2 => unfold sp1 at hs; split at hs <;> (first | cases hs | exact absurd hs (by
            have : ∀ (a l : List Nat), sp1 58 a l ≠ [] := by
              intro a l
              induction l generalizing a with
              | nil => intro z; cases z
              | cons c r ih => unfold sp1; split <;> simp [ih]
            exact this _ _))
      | cons x y =>
        rw [hs] at e
        rw [J_cons2, e, List.nil_append, h]
    · rw [ih (acc ++ [c]), List.append_assoc]; rfl
theorem sp1_ne (a l : List Nat) : sp1 58 a l ≠ [] := by
  induction l generalizing a with
  | nil => intro z; cases z
  | cons c r ih => unfold sp1; split <;> simp [ih]
theorem sp1_free : ∀ (l acc : List Nat), 58 ∉ acc → ∀ p ∈ sp1 58 acc l, 58 ∉ p
  | [], acc, h, p, hp => by rw [List.mem_singleton.mp hp]; exact h
  | c :: r, acc, h, p, hp => by
    unfold sp1 at hp
    split at hp
    · rcases List.mem_cons.mp hp with e | hp
      · rw [e]; exact h
      · exact sp1_free r [] (by simp) p hp
    · rename_i hc
      refine sp1_free r _ ?_ p hp
      intro hm
      rcases List.mem_append.mp hm with hm | hm
      · exact h hm
      · exact hc (List.mem_singleton.mp hm).symm
def Fr (ss : List (List Nat)) : Prop := ∀ p ∈ ss, 58 ∉ p
theorem sp1_of {ss : List (List Nat)} (h : ss ≠ []) (hf : Fr ss) : sp1 58 [] (J ss) = ss := by
  rw [← sp1_spl]; exact spl_join h hf
/-- the first gap -/
def gap : List (List Nat) → Option (List (List Nat) × List (List Nat))
  | s :: t :: r => if t = [] ∧ r ≠ [] then some ([s], r) else (gap (t :: r)).map fun ab => (s :: ab.1, ab.2)
  | _ => none
theorem gap_ne : ∀ {ss : List (List Nat)} {ab}, gap ss = some ab → ab.1 ≠ [] ∧ ab.2 ≠ []
  | [], _, h => by cases h
  | [_], _, h => by cases h
  | s :: t :: r, ab, h => by
    unfold gap at h
    split at h
    · rename_i c
      cases h
      exact ⟨by simp, c.2⟩
    · obtain ⟨x, hx, rfl⟩ := Option.map_eq_some_iff.mp h
      exact ⟨by simp, (gap_ne hx).2⟩
theorem par_skip {S s acc l : List Nat} {c : Nat} (h : c ∉ s) : par (c :: S) acc (s ++ l) = par (c :: S) (acc ++ s) l := by
  induction s generalizing acc with
  | nil => rw [List.append_nil]; rfl
  | cons x s ih =>
    rw [List.cons_append, par_miss (pre_of_head _ _ (fun e => h (by rw [e]; exact List.mem_cons_self ..))), ih (fun hm => h (List.mem_cons_of_mem _ hm)), List.append_assoc]; rfl
theorem pre2 {l : List Nat} : pre [58, 58] (58 :: l) = pre [58] l := by
  unfold pre
  cases l with
  | nil => rfl
  | cons c r => simp
theorem pre3 {l : List Nat} : pre [58, 58, 58] (58 :: l) = pre [58, 58] l := by
  unfold pre
  cases l with
  | nil => rfl
  | cons c r => simp
theorem pre1_cons {c : Nat} {l : List Nat} : pre [58] (c :: l) = decide (c = 58) := by
  unfold pre
  by_cases h : c = 58 <;> simp [h]
/-- begins with a colon -/
def sC : List (List Nat) → Bool
  | [] :: _ :: _ => true
  | _ => false
theorem pre_J {ss : List (List Nat)} (hf : Fr ss) : pre [58] (J ss) = sC ss := by
  match ss, hf with
  | [], _ => rfl
  | [[]], _ => rfl
  | [c :: s], hf =>
    show pre [58] (c :: s) = false
    rw [pre1_cons]
    exact decide_eq_false fun e => hf (c :: s) (by simp) (by rw [e]; exact List.mem_cons_self ..)
  | [] :: t :: r, _ => show pre [58] (58 :: J (t :: r)) = true; rw [pre1_cons]; rfl
  | (c :: s) :: t :: r, hf =>
    show pre [58] (c :: (s ++ 58 :: J (t :: r))) = false
    rw [pre1_cons]
    exact decide_eq_false fun e => hf (c :: s) (by simp) (by rw [e]; exact List.mem_cons_self ..)
theorem sC_iff {t : List Nat} {r : List (List Nat)} : sC (t :: r) = true ↔ t = [] ∧ r ≠ [] := by
  match t, r with
  | [], [] => simp [sC]
  | [], _ :: _ => simp [sC]
  | _ :: _, [] => simp [sC]
  | _ :: _, _ :: _ => simp [sC]
theorem Fr.tail {s : List Nat} {r : List (List Nat)} (h : Fr (s :: r)) : Fr r := fun p hp => h p (List.mem_cons_of_mem _ hp)
theorem Fr.head {s : List Nat} {r : List (List Nat)} (h : Fr (s :: r)) : 58 ∉ s := h s (List.mem_cons_self ..)
theorem par_gap : ∀ {ss : List (List Nat)} (acc : List Nat), Fr ss → par [58, 58] acc (J ss) = (gap ss).map fun ab => (acc ++ J ab.1, J ab.2)
  | [], acc, _ => rfl
  | [s], acc, hf => by
    show par [58, 58] acc s = none
    exact par_none1 hf.head
  | s :: t :: r, acc, hf => by
    rw [J_cons2, par_skip hf.head]
    have e1 : pre [58, 58] (58 :: J (t :: r)) = sC (t :: r) := by rw [pre2, pre_J hf.tail]
    unfold gap
    by_cases h : t = [] ∧ r ≠ []
    · rw [if_pos h, par_hit (by rw [e1]; exact sC_iff.mpr h)]
      obtain ⟨rfl, hr⟩ := h
      match r, hr with
      | u :: r, _ => rfl
    · rw [if_neg h, par_miss (by rw [e1]; cases e : sC (t :: r) with | false => rfl | true => exact absurd (sC_iff.mp e) h), par_gap _ hf.tail]
      cases hg : gap (t :: r) with
      | none => rfl
      | some ab =>
        obtain ⟨a1, a2⟩ := gap_ne hg
        show some (_, _) = some (_, _)
        have e2 : J (s :: ab.1) = s ++ 58 :: J ab.1 := by
          match h1 : ab.1, a1 with
          | x :: y, _ => rfl
        rw [e2]; simp
/-- three colons -/
def gap3 : List (List Nat) → Bool
  | s :: t :: u :: r => (decide (t = []) && sC (u :: r)) || gap3 (t :: u :: r)
  | _ => false
theorem par_gap3 : ∀ {ss : List (List Nat)} (acc : List Nat), Fr ss → (par [58, 58, 58] acc (J ss)).isSome = gap3 ss
  | [], acc, _ => rfl
  | [s], acc, hf => by
    have e : par [58, 58, 58] acc (J [s]) = none := par_none1 (p := s) hf.head
    rw [e]; rfl
  | [s, t], acc, hf => by
    have e : J [s, t] = s ++ 58 :: t := rfl
    rw [e, par_skip hf.head]
    have ht : 58 ∉ t := hf.tail.head
    have e1 : pre [58, 58, 58] (58 :: t) = false := by
      rw [pre3]
      cases t with
      | nil => rfl
      | cons c r => exact pre_of_head _ _ fun e => ht (by rw [e]; exact List.mem_cons_self ..)
    rw [par_miss e1, par_none1 ht]; rfl
  | s :: t :: u :: r, acc, hf => by
    rw [J_cons2, par_skip hf.head]
    unfold gap3
    have e1 : pre [58, 58, 58] (58 :: J (t :: u :: r)) = (decide (t = []) && sC (u :: r)) := by
      rw [pre3]
      cases t with
      | nil =>
        have : J ([] :: u :: r) = 58 :: J (u :: r) := rfl
        rw [this, pre2, pre_J hf.tail.tail]; simp
      | cons c t =>
        have : J ((c :: t) :: u :: r) = c :: (t ++ 58 :: J (u :: r)) := rfl
        rw [this, pre_of_head _ _ (fun e => hf.tail.head (by rw [e]; exact List.mem_cons_self ..))]; simp
    cases hp : decide (t = []) && sC (u :: r) with
    | true => rw [par_hit (by rw [e1, hp])]; rfl
    | false => rw [par_miss (by rw [e1, hp]), par_gap3 _ hf.tail]; rfl
theorem gap3_next {x : List Nat} {r : List (List Nat)} (h : gap3 (x :: r) = true) : sC r = true ∨ (gap r).isSome = true := by
  match r, h with
  | t :: u :: r, h =>
    unfold gap3 at h
    rw [Bool.or_eq_true, Bool.and_eq_true] at h
    rcases h with ⟨h1, _⟩ | h
    · rw [of_decide_eq_true h1]; exact .inl rfl
    · rcases gap3_next h with h | h
      · refine .inr ?_
        unfold gap
        rw [if_pos (sC_iff.mp h |> fun z => ⟨z.1, z.2⟩)]; rfl
      · refine .inr ?_
        unfold gap
        split
        · rfl
        · rw [Option.isSome_map]; exact h
/-- two gaps -/
def gaps2 (ss : List (List Nat)) : Bool := match gap ss with
  | none => false
  | some ab => sC ab.2 || (gap ab.2).isSome
theorem gaps_iff : ∀ {ss : List (List Nat)}, (gap3 ss = true ∨ ∃ ab, gap ss = some ab ∧ (gap ab.2).isSome = true) ↔ gaps2 ss = true
  | [] => by simp [gap3, gaps2, gap]
  | [s] => by simp [gap3, gaps2, gap]
  | [s, t] => by
    have : ¬ (t = [] ∧ ([] : List (List Nat)) ≠ []) := by simp
    simp [gap3, gaps2, gap]
  | s :: t :: u :: r => by
    unfold gaps2
    by_cases h : t = [] ∧ (u :: r) ≠ []
    · have e : gap (s :: t :: u :: r) = some ([s], u :: r) := by unfold gap; rw [if_pos h]
      rw [e]
      unfold gap3
      rw [decide_eq_true h.1, Bool.true_and]
      show ((sC (u :: r) || gap3 (t :: u :: r)) = true ∨ _) ↔ (sC (u :: r) || (gap (u :: r)).isSome) = true
      rw [Bool.or_eq_true, Bool.or_eq_true]
      constructor
      · rintro ((h1 | h1) | ⟨ab, h1, h2⟩)
        · exact .inl h1
        · exact gap3_next h1
        · cases h1; exact .inr h2
      · rintro (h1 | h1)
        · exact .inl (.inl h1)
        · exact .inr ⟨_, rfl, h1⟩
    · have e : gap (s :: t :: u :: r) = (gap (t :: u :: r)).map fun ab => (s :: ab.1, ab.2) := by rw [gap, if_neg h]
      have ih := gaps_iff (ss := t :: u :: r)
      unfold gap3
      rw [decide_eq_false (fun z => h ⟨z, by simp⟩), Bool.false_and, Bool.false_or, e]
      unfold gaps2 at ih
      cases hg : gap (t :: u :: r) with
      | none =>
        rw [hg] at ih
        simp only [Option.map_none]
        constructor
        · rintro (h1 | ⟨_, h1, _⟩)
          · exact ih.mp (.inl h1)
          · cases h1
        · intro h1; cases h1
      | some ab =>
        rw [hg] at ih
        simp only [Option.map_some]
        constructor
        · rintro (h1 | ⟨_, h1, h2⟩)
          · exact ih.mp (.inl h1)
          · cases h1; exact ih.mp (.inr ⟨_, rfl, h2⟩)
        · intro h1
          rcases ih.mpr h1 with h1 | ⟨_, h1, h2⟩
          · exact .inl h1
          · cases h1; exact .inr ⟨_, rfl, h2⟩
/-! ### the text's own questions, by lists -/
theorem inS_par (y z : Str) (hy : tl y ≠ []) : inS y z = (par (tl y) [] (tl z)).isSome := by
  unfold inS
  rcases StrLaws.occ_head z y 1 (Nat.le_refl 1) with ⟨h0, hn⟩ | ⟨i, r, h0, hi, hn⟩
  · rw [h0, par_none fun i _ => no_at hy (hn i)]; rfl
  · have hb : i + y.length ≤ z.length := hi.1
    have hx := len_tl z
    have run := par_run (tl y) (tl z) i 0 [] (by omega) (fun k _ k2 => no_at hy (hn k (by omega)))
    rw [List.drop_zero, Nat.zero_add, List.nil_append, par_at hy ((at_iff hy i).mp hi)] at run
    rw [h0, run]; rfl
theorem partsFrom_len (x : Str) (w : Nat) : ∀ (cuts : List Nat) (a : Nat), (StrLaws.partsFrom x w a cuts).length = cuts.length + 1
  | [], _ => rfl
  | c :: r, a => by
    show (StrLaws.partsFrom x w (c + w) r).length + 1 = _
    rw [partsFrom_len x w r]; rfl
theorem count_spl (x y : Str) (hy : tl y ≠ []) : Txt.count x y = ((spl (tl y) 0 [] (tl x)).length : Int) - 1 := by
  obtain ⟨f, g, hn⟩ := StrLaws.occ_tight x y (len1 hy)
  have key := parts_spl hy _ 0 f (Nat.zero_le _) g hn
  rw [List.drop_zero] at key
  rw [← key, List.length_map, partsFrom_len]
  unfold Txt.count
  omega
theorem spl_par {S : List Nat} (hS : S ≠ []) : ∀ (l acc : List Nat), spl S 0 acc l = (match par S acc l with | none => [acc ++ l] | some (a, b) => a :: spl S 0 [] b)
  | [], acc => by rw [spl_nil]; show _ = [acc ++ []]; rw [List.append_nil]
  | c :: r, acc => by
    cases h : pre S (c :: r) with
    | true => 
      rw [spl_hit h, par_hit h, spl_pass]
      match S, hS with
      | s :: S, _ => rfl
    | false =>
      rw [spl_miss h, par_miss h, spl_par hS r]
      cases par S (acc ++ [c]) r with
      | none => simp
      | some ab => rfl
theorem spl_len1 {S : List Nat} (hS : S ≠ []) (l acc : List Nat) : (1 < (spl S 0 acc l).length) = ((par S acc l).isSome = true) := by
  rw [spl_par hS]
  cases par S acc l with
  | none => simp
  | some ab =>
    obtain ⟨a, b⟩ := ab
    have : 1 ≤ (spl S 0 [] b).length := by
      rw [spl_par hS]
      cases par S [] b with
      | none => simp
      | some ab => simp
    simp only [List.length_cons, Option.isSome_some, eq_self_iff_true, eq_iff_iff, iff_true]
    omega
theorem tl_colon : tl (":" : Str) = [58] := by decide +kernel
theorem tl_colon2 : tl ("::" : Str) = [58, 58] := by decide +kernel
theorem tl_colon3 : tl (":::" : Str) = [58, 58, 58] := by decide +kernel
theorem gaps_sh {z : Str} {ss : List (List Nat)} (hz : tl z = J ss) (hf : Fr ss) : wrongGaps z = gaps2 ss := by
  unfold wrongGaps
  rw [inS_par _ _ (by rw [tl_colon3]; simp), tl_colon3, hz, par_gap3 _ hf, count_spl _ _ (by rw [tl_colon2]; simp), tl_colon2, hz]
  have e : (1 < ((spl [58, 58] 0 [] (J ss)).length : Int) - 1) ↔ ∃ ab, gap ss = some ab ∧ (gap ab.2).isSome = true := by
    rw [spl_par (by simp), par_gap _ hf]
    cases hg : gap ss with
    | none => simp
    | some ab =>
      obtain ⟨a, b⟩ := ab
      have hfb : Fr b := by
        have : ∀ {ss : List (List Nat)} {ab}, gap ss = some ab → ∀ p ∈ ab.2, p ∈ ss := by
          intro ss
          induction ss with
          | nil => intro ab h; cases h
          | cons s r ih =>
            intro ab h p hp
            match r, h with
            | t :: r, h =>
              unfold gap at h
              split at h
              · cases h; exact List.mem_cons_of_mem _ (List.mem_cons_of_mem _ hp)
              · obtain ⟨x, hx, rfl⟩ := Option.map_eq_some_iff.mp h
                exact List.mem_cons_of_mem _ (ih hx p hp)
        exact fun p hp => hf p (this hg p hp)
      have s1 := spl_len1 (S := [58, 58]) (by simp) (J b) []
      rw [par_gap _ hfb, Option.isSome_map] at s1
      show (1 < (((spl [58, 58] 0 [] (J b)).length + 1 : Nat) : Int) - 1) ↔ _
      constructor
      · intro h
        exact ⟨_, rfl, by rw [← s1]; omega⟩
      · rintro ⟨_, h, h2⟩
        cases h
        rw [← s1] at h2
        omega
  rw [Bool.eq_iff_iff, Bool.or_eq_true, decide_eq_true_eq, e]
  exact gaps_iff
theorem starts_pre (x y : Str) (hy : tl y ≠ []) : Txt.startswith x y = pre (tl y) (tl x) := by
  have h := at_iff (x := x) hy 0
  rw [List.drop_zero] at h
  unfold Txt.startswith
  rw [Bool.eq_iff_iff, Bool.and_eq_true, decide_eq_true_eq]
  exact h
theorem ends_pre (x y : Str) (hy : tl y ≠ []) : Txt.endswith x y = pre (tl y).reverse (tl x).reverse := by
  have hx := len_tl x
  have hl := len_tl y
  unfold Txt.endswith
  rw [Bool.eq_iff_iff, Bool.and_eq_true, decide_eq_true_eq, StrLaws.subAt_eq]
  show (_ ∧ (((tl x).drop (x.length - y.length)).take y.length == tl y) = true) ↔ (((tl x).reverse.take (tl y).reverse.length) == (tl y).reverse) = true
  rw [beq_iff_eq, beq_iff_eq, List.length_reverse, List.take_reverse, List.reverse_inj, hx, hl]
  constructor
  · rintro ⟨h1, h2⟩
    have h3 := h2
    rw [List.take_of_length_le (by rw [List.length_drop]; omega)] at h3
    exact h3
  · intro h
    have := congrArg List.length h
    rw [List.length_drop] at this
    refine ⟨by omega, ?_⟩
    rw [h]; exact List.take_of_length_le (Nat.le_refl _)
/-- the last part and what stands before it -/
theorem J_snoc : ∀ (i : List (List Nat)) (t : List Nat), J (i ++ [t]) = J (i ++ [[]]) ++ t
  | [], t => rfl
  | [s], t => by show s ++ 58 :: t = (s ++ [58]) ++ t; simp
  | s :: u :: i, t => by
    show s ++ 58 :: J (u :: i ++ [t]) = (s ++ 58 :: J (u :: i ++ [[]])) ++ t
    rw [J_snoc (u :: i) t]; simp
theorem J_end : ∀ {i : List (List Nat)}, i ≠ [] → J (i ++ [[]]) = J i ++ [58]
  | [], h => absurd rfl h
  | [s], _ => rfl
  | s :: u :: i, _ => by
    show s ++ 58 :: J (u :: i ++ [[]]) = (s ++ 58 :: J (u :: i)) ++ [58]
    rw [J_end (i := u :: i) (by simp)]; simp
theorem place_eq {z : Str} {P t : List Nat} (hz : tl z = P ++ t) (ht : 58 ∉ t) (hP : P = [] ∨ ∃ P', P = P' ++ [58]) : qPlace z = P.length := by
  have hat : ∀ k, StrLaws.At z (":" : Str) z.length k ↔ (tl z)[k]? = some 58 := by
    intro k
    rw [at_iff (by rw [tl_colon]; simp), tl_colon]
    cases hd : (tl z).drop k with
    | nil =>
      have := List.drop_eq_nil_iff.mp hd
      rw [List.getElem?_eq_none this]
      simp [pre]
    | cons c r =>
      have : (tl z)[k]? = some c := by
        have := congrArg (fun l => l[0]?) hd
        simpa using this
      rw [this, pre1_cons]
      simp
  unfold qPlace Txt.rfind
  rcases StrLaws.last_spec z (":" : Str) with ⟨h0, hn⟩ | ⟨i, h0, hi, hn⟩
  · rw [h0]
    rcases hP with rfl | ⟨P', rfl⟩
    · rfl
    · refine absurd ((hat P'.length).mpr ?_) (hn _)
      rw [hz]; simp
  · rw [h0]
    have h1 := (hat i).mp hi
    have hlt : i < P.length := by
      refine Classical.byContradiction fun c => ht ?_
      rw [hz, List.getElem?_append_right (by omega)] at h1
      exact List.mem_of_getElem? h1
    rcases hP with rfl | ⟨P', rfl⟩
    · simp at hlt
    · have : ¬ i < P'.length := fun c => hn P'.length c ((hat _).mpr (by rw [hz]; simp))
      rw [List.length_append] at hlt ⊢
      simp at hlt ⊢
      omega
theorem cut_hi {z : Str} {P t : List Nat} (hz : tl z = P ++ t) : cutS z (some (P.length : Int)) none = ⟨t.toArray⟩ := by
  refine ext_tl ?_
  show ((tl z).drop (HT.sIx (tl z).length 0 (some (P.length : Int)))).take (HT.sIx (tl z).length (tl z).length none - HT.sIx (tl z).length 0 (some (P.length : Int))) = t
  rw [HT.sIx_nat, HT.sIx_none, hz, Nat.min_eq_left (by rw [List.length_append]; omega), List.drop_left]
  exact List.take_of_length_le (by rw [List.length_append]; omega)
theorem cut_lo {z : Str} {P t : List Nat} (hz : tl z = P ++ t) : cutS z none (some (P.length : Int)) = ⟨P.toArray⟩ := by
  refine ext_tl ?_
  show ((tl z).drop (HT.sIx (tl z).length 0 none)).take (HT.sIx (tl z).length (tl z).length (some (P.length : Int)) - HT.sIx (tl z).length 0 none) = P
  rw [HT.sIx_nat, HT.sIx_none, hz, Nat.min_eq_left (by rw [List.length_append]; omega), List.drop_zero, Nat.sub_zero, List.take_left]
theorem rstrip_tl (z : Str) : tl (Txt.rstripChars z (":" : Str)) = ((tl z).reverse.dropWhile (fun c => decide (c = 58))).reverse := by
  unfold Txt.rstripChars
  rw [PyProof.Rows.stripBy_eq, tl_strSub]
  have e : ∀ c, ((":" : Str).cps.contains c) = decide (c = 58) := by
    intro c
    have : (":" : Str).cps = #[58] := by decide +kernel
    rw [this]
    by_cases h : c = 58 <;> simp [h]
  have eg : (fun c => (":" : Str).cps.contains c) = fun c => decide (c = 58) := funext e
  show ((tl z).drop 0).take (z.length - (((tl z).drop 0).reverse.takeWhile _).length - 0) = _
  rw [List.drop_zero, Nat.sub_zero, len_tl z]
  have eg2 : ((":" : Str).cps.contains) = fun c => decide (c = 58) := eg
  rw [eg2]
  have key : ∀ l : List Nat, l.reverse.take (l.length - (l.takeWhile fun c => decide (c = 58)).length) = (l.dropWhile fun c => decide (c = 58)).reverse := by
    intro l
    have h1 : l = (l.takeWhile fun c => decide (c = 58)) ++ (l.dropWhile fun c => decide (c = 58)) := (List.takeWhile_append_dropWhile ..).symm
    conv => lhs; rw [h1]
    rw [List.reverse_append, List.length_append, h1.symm]
    rw [Nat.add_sub_cancel_left]
    rw [List.take_append_of_le_length (by rw [List.length_reverse]; exact Nat.le_refl _)]
    exact List.take_of_length_le (by rw [List.length_reverse]; exact Nat.le_refl _)
  have k := key (tl z).reverse
  rw [List.reverse_reverse, List.length_reverse] at k
  exact k
/-! ### ends, groups, the pieces -/
abbrev tS (l : List Nat) : Str := ⟨l.toArray⟩
theorem tl_tS (l : List Nat) : tl (tS l) = l := rfl
theorem tS_tl (z : Str) : tS (tl z) = z := mk_tl z
def sC2 : List (List Nat) → Bool
  | [] :: r => sC r
  | _ => false
theorem pre_J2 {ss : List (List Nat)} (hf : Fr ss) : pre [58, 58] (J ss) = sC2 ss := by
  match ss, hf with
  | [], _ => rfl
  | [[]], _ => rfl
  | [c :: s], hf => exact pre_of_head _ _ fun e => hf (c :: s) (by simp) (by rw [e]; exact List.mem_cons_self ..)
  | [] :: t :: r, hf => show pre [58, 58] (58 :: J (t :: r)) = sC (t :: r); rw [pre2, pre_J hf.tail]
  | (c :: s) :: t :: r, hf => exact pre_of_head _ _ fun e => hf (c :: s) (by simp) (by rw [e]; exact List.mem_cons_self ..)
theorem J_app {X Y : List (List Nat)} (hx : X ≠ []) (hy : Y ≠ []) : J (X ++ Y) = J X ++ 58 :: J Y := by
  match X, hx, Y, hy with
  | [s], _, t :: r, _ => rfl
  | s :: u :: X, _, t :: r, h =>
    show s ++ 58 :: J (u :: X ++ t :: r) = (s ++ 58 :: J (u :: X)) ++ 58 :: J (t :: r)
    rw [J_app (X := u :: X) (by simp) h]; simp
theorem J_rev : ∀ ss : List (List Nat), (J ss).reverse = J (ss.reverse.map List.reverse)
  | [] => rfl
  | [s] => rfl
  | s :: t :: r => by
    have ih := J_rev (t :: r)
    rw [J_cons2, List.reverse_append, List.reverse_cons, ih, List.reverse_cons (a := s), List.map_append, J_app (by simp) (by simp)]
    simp; rfl
theorem sC_map {ss : List (List Nat)} : sC (ss.map List.reverse) = sC ss := by
  match ss with
  | [] => rfl
  | [[]] => rfl
  | [c :: s] =>
    cases h : (c :: s).reverse with
    | nil => simp at h
    | cons x y => show sC [(c :: s).reverse] = _; rw [h]; rfl
  | [] :: t :: r => rfl
  | (c :: s) :: t :: r =>
    show sC ((c :: s).reverse :: t.reverse :: _) = false
    cases h : (c :: s).reverse with
    | nil => simp at h
    | cons x y => rfl
theorem sC2_map {ss : List (List Nat)} : sC2 (ss.map List.reverse) = sC2 ss := by
  match ss with
  | [] => rfl
  | [] :: r => show sC (r.map List.reverse) = sC r; exact sC_map
  | (c :: s) :: r =>
    show sC2 ((c :: s).reverse :: _) = false
    cases h : (c :: s).reverse with
    | nil => simp at h
    | cons x y => rfl
theorem Fr.rev {ss : List (List Nat)} (h : Fr ss) : Fr (ss.reverse.map List.reverse) := fun p hp => by
  obtain ⟨q, hq, rfl⟩ := List.mem_map.mp hp
  intro hm
  exact h q (List.mem_reverse.mp hq) (List.mem_reverse.mp hm)
theorem ends_sh {z : Str} {ss : List (List Nat)} (hz : tl z = J ss) (hf : Fr ss) : wrongEnds z = ((sC ss && !sC2 ss) || (sC ss.reverse && !sC2 ss.reverse)) := by
  unfold wrongEnds
  rw [starts_pre _ _ (by rw [tl_colon]; simp), starts_pre _ _ (by rw [tl_colon2]; simp), ends_pre _ _ (by rw [tl_colon]; simp), ends_pre _ _ (by rw [tl_colon2]; simp), tl_colon, tl_colon2, hz]
  show (pre [58] (J ss) && !pre [58, 58] (J ss) || pre [58] (J ss).reverse && !pre [58, 58] (J ss).reverse) = _
  rw [J_rev, pre_J hf, pre_J2 hf, pre_J hf.rev, pre_J2 hf.rev, sC_map, sC2_map]
def rs (b : List (List Nat)) : List (List Nat) := (b.reverse.dropWhile fun s => decide (s = [])).reverse
theorem J_drop : ∀ {c : List (List Nat)}, Fr c → (J c).dropWhile (fun x => decide (x = 58)) = J (c.dropWhile fun s => decide (s = []))
  | [], _ => rfl
  | [[]], _ => rfl
  | [x :: s], hf => by
    have hx : ¬ x = 58 := fun e => hf.head (by rw [e]; exact List.mem_cons_self ..)
    show (x :: s).dropWhile _ = J ([x :: s].dropWhile _)
    rw [List.dropWhile_cons, if_neg (by simp [hx])]
    simp; rfl
  | [] :: t :: r, hf => by
    show (58 :: J (t :: r)).dropWhile _ = J (([] :: t :: r).dropWhile _)
    rw [List.dropWhile_cons, if_pos (by simp), List.dropWhile_cons, if_pos (by simp), J_drop hf.tail]
  | (x :: s) :: t :: r, hf => by
    have hx : ¬ x = 58 := fun e => hf.head (by rw [e]; exact List.mem_cons_self ..)
    show (x :: (s ++ 58 :: J (t :: r))).dropWhile _ = J (((x :: s) :: t :: r).dropWhile _)
    rw [List.dropWhile_cons, if_neg (by simp [hx]), List.dropWhile_cons, if_neg (by simp)]; rfl
theorem drop_map (c : List (List Nat)) : (c.map List.reverse).dropWhile (fun s => decide (s = [])) = (c.dropWhile fun s => decide (s = [])).map List.reverse := by
  induction c with
  | nil => rfl
  | cons s c ih =>
    rw [List.map_cons, List.dropWhile_cons, List.dropWhile_cons, ih]
    by_cases h : s = []
    · rw [if_pos (by simp [h]), if_pos (by simp [h])]
    · rw [if_neg (by simp [h]), if_neg (by simp [h])]; rfl
theorem rstrip_J {b : List (List Nat)} (hf : Fr b) : Txt.rstripChars (tS (J b)) (":" : Str) = tS (J (rs b)) := by
  refine ext_tl ?_
  rw [rstrip_tl]
  show ((J b).reverse.dropWhile _).reverse = J (rs b)
  rw [J_rev, J_drop hf.rev, drop_map, J_rev]
  congr 1
  unfold rs
  rw [← List.map_reverse, List.map_map]
  have er : (List.reverse ∘ List.reverse : List Nat → List Nat) = id := funext List.reverse_reverse
  rw [er, List.map_id]
theorem hexG_sh {c : List (List Nat)} (hf : Fr c) : hexGroups (tS (J c)) = if J c = [] then [] else c.map tS := by
  unfold hexGroups
  have e0 : (tS (J c) = ("" : Str)) ↔ J c = [] := ⟨fun h => by have := congrArg tl h; exact this, fun h => by rw [h]; rfl⟩
  by_cases h : J c = []
  · rw [if_pos h, if_pos (e0.mpr h)]
  · rw [if_neg h, if_neg (fun z => h (e0.mp z))]
    refine map_tl_inj ?_
    rw [split_colon, tl_tS, sp1_of (fun e => h (by rw [e]; rfl)) hf, List.map_map]
    show c = c.map id
    simp
/-- parts that are not empty -/
theorem hexG_good {A : List (List Nat)} (hf : Fr A) (hn : ∀ g ∈ A, g ≠ []) : hexGroups (tS (J A)) = A.map tS := by
  rw [hexG_sh hf]
  split
  · rename_i h
    match A, h, hn with
    | [], _, _ => rfl
    | [s], h, hn => exact absurd h (hn s (by simp))
    | s :: t :: r, h, _ => rw [J_cons2] at h; simp at h
  · rfl
theorem rs_good {B : List (List Nat)} (hn : ∀ g ∈ B, g ≠ []) : rs B = B := by
  unfold rs
  have e : B.reverse.dropWhile (fun s => decide (s = [])) = B.reverse := by
    cases h : B.reverse with
    | nil => rfl
    | cons x y =>
      rw [List.dropWhile_cons, if_neg]
      have := hn x (List.mem_reverse.mp (by rw [h]; exact List.mem_cons_self ..))
      simp [this]
  rw [e, List.reverse_reverse]
theorem rs_end {B : List (List Nat)} (hn : ∀ g ∈ B, g ≠ []) : rs (B ++ [[]]) = B := by
  have := rs_good hn
  unfold rs at this ⊢
  rw [List.reverse_append]
  show (([] :: B.reverse).dropWhile _).reverse = B
  rw [List.dropWhile_cons, if_pos (by simp)]
  exact this
theorem gap_none : ∀ {A : List (List Nat)} {t : List Nat}, (∀ g ∈ A, g ≠ []) → gap (A ++ [t]) = none
  | [], _, _ => rfl
  | [s], t, _ => by
    show gap [s, t] = none
    unfold gap
    rw [if_neg (by simp)]; rfl
  | s :: u :: A, t, hn => by
    show gap (s :: u :: (A ++ [t])) = none
    unfold gap
    rw [if_neg (fun z => hn u (by simp) z.1)]
    have := gap_none (A := u :: A) (t := t) fun g hg => hn g (List.mem_cons_of_mem _ hg)
    have e : gap (u :: (A ++ [t])) = none := this
    rw [e]; rfl
theorem gap_good {A : List (List Nat)} (hn : ∀ g ∈ A, g ≠ []) : gap A = none := by
  rcases List.eq_nil_or_concat A with rfl | ⟨X, t, rfl⟩
  · rfl
  · rw [List.concat_eq_append] at *
    exact gap_none fun g hg => hn g (List.mem_append_left _ hg)
/-- none to begin with: one empty part -/
def e1 (A : List (List Nat)) : List (List Nat) := if A = [] then [[]] else A
theorem J_e1 (A : List (List Nat)) : J (e1 A) = J A := by
  unfold e1
  split
  · rename_i h; rw [h]; rfl
  · rfl
theorem e1_ne (A : List (List Nat)) : e1 A ≠ [] := by
  unfold e1
  split
  · simp
  · assumption
theorem gap_mid {A B : List (List Nat)} (hB : B ≠ []) (hn : ∀ g ∈ A, g ≠ []) : gap (e1 A ++ [] :: B) = some (e1 A, B) := by
  have key : ∀ {X : List (List Nat)} {s : List Nat}, (∀ g ∈ X, g ≠ []) → gap (s :: X ++ [] :: B) = some (s :: X, B) := by
    intro X
    induction X with
    | nil =>
      intro s _
      show gap (s :: [] :: B) = _
      unfold gap
      rw [if_pos ⟨rfl, hB⟩]
    | cons u X ih =>
      intro s h
      show gap (s :: u :: (X ++ [] :: B)) = _
      unfold gap
      rw [if_neg (fun z => h u (by simp) z.1)]
      have e : gap (u :: (X ++ [] :: B)) = some (u :: X, B) := ih fun g hg => h g (List.mem_cons_of_mem _ hg)
      rw [e]; rfl
  unfold e1
  split
  · exact key (X := []) (by simp)
  · cases A with
    | nil => rename_i h; exact absurd rfl h
    | cons s X => exact key fun g hg => hn g (List.mem_cons_of_mem _ hg)
/-! ### texts that are read -/
def hexU : List Nat := [48, 49, 50, 51, 52, 53, 54, 55, 56, 57, 97, 98, 99, 100, 101, 102, 65, 66, 67, 68, 69, 70]
/-- a group of a text -/
structure HG (g : List Nat) : Prop where
  ne : g ≠ []
  len : g.length ≤ 4
  hex : ∀ c ∈ g, c ∈ hexU
theorem hexU_ok : ∀ c ∈ hexU, okSign c = true ∧ lo1 c ∈ hexD.cps.toList ∧ c < 128 ∧ c ≠ 58 ∧ c ≠ 46 := by decide +kernel
theorem ok58 : okSign 58 = true := by decide +kernel
theorem ok46 : okSign 46 = true := by decide +kernel
theorem dg_ok : ∀ c, 48 ≤ c → c ≤ 57 → c ∈ hexU := by
  intro c h1 h2
  have : c ∈ [48, 49, 50, 51, 52, 53, 54, 55, 56, 57] := by simp; omega
  unfold hexU
  simp at this ⊢
  omega
theorem HG.free {g : List Nat} (h : HG g) : 58 ∉ g := fun hm => (hexU_ok _ (h.hex _ hm)).2.2.2.1 rfl
theorem HG.nodot {g : List Nat} (h : HG g) : 46 ∉ g := fun hm => (hexU_ok _ (h.hex _ hm)).2.2.2.2 rfl
theorem HG.ok {g : List Nat} (h : HG g) : ∀ c ∈ g, okSign c = true := fun c hc => (hexU_ok _ (h.hex _ hc)).1
theorem HG.low {g : List Nat} (h : HG g) : tl (Txt.lower (tS g)) = g.map lo1 := by
  have e : Txt.lower (tS g) = ⟨(tS g).cps.map lo1⟩ := lower_ascii fun c hc => (hexU_ok _ (h.hex _ (by simpa using hc))).2.2.1
  rw [e]
  show (((g.toArray).map lo1)).toList = _
  simp
theorem HG.hexOk {g : List Nat} (h : HG g) : An.hexOk (tS g) := fun c hc => by
  rw [h.low] at hc
  obtain ⟨d, hd, rfl⟩ := List.mem_map.mp hc
  exact (hexU_ok _ (h.hex _ hd)).2.1
theorem HG.num {g : List Nat} (h : HG g) : hexNum (tS g) = hval (g.map lo1) := by
  unfold hexNum
  rw [h.low]; rfl
theorem mem_J {c : Nat} : ∀ {ss : List (List Nat)}, c ∈ J ss → c = 58 ∨ ∃ s ∈ ss, c ∈ s
  | [], h => by cases h
  | [s], h => .inr ⟨s, by simp, h⟩
  | s :: t :: r, h => by
    rw [J_cons2] at h
    rcases List.mem_append.mp h with h | h
    · exact .inr ⟨s, by simp, h⟩
    · rcases List.mem_cons.mp h with h | h
      · exact .inl h
      · rcases mem_J h with h | ⟨s, hs, h⟩
        · exact .inl h
        · exact .inr ⟨s, List.mem_cons_of_mem _ hs, h⟩
/-- the version 4 text at the end, if any -/
def qs (q : List Nat) : List (List Nat) := if q = [] then [] else [q]
structure QG (q : List Nat) : Prop where
  ok : q ≠ [] → quadFault q = none
theorem dots_mem {c : Nat} {q : List Nat} (h : c ∈ q) : c = 46 ∨ ∃ p ∈ dots q, c ∈ p := by
  have key : ∀ (l acc : List Nat), c ∈ acc ++ l → c = 46 ∨ ∃ p ∈ sp1 46 acc l, c ∈ p := by
    intro l
    induction l with
    | nil => intro acc h; exact .inr ⟨acc, by unfold sp1; simp, by simpa using h⟩
    | cons x r ih =>
      intro acc h
      unfold sp1
      split
      · rename_i e
        rcases List.mem_append.mp h with h | h
        · exact .inr ⟨acc, by simp, h⟩
        · rcases List.mem_cons.mp h with h | h
          · exact .inl (by rw [h, e])
          · rcases ih [] (by simpa using h) with h | ⟨p, hp, h⟩
            · exact .inl h
            · exact .inr ⟨p, List.mem_cons_of_mem _ hp, h⟩
      · exact ih _ (by simpa using h)
  exact key q [] (by simpa using h)
theorem first_all {ps : List (List Nat)} (h : firstFault ps = none) : ∀ p ∈ ps, partFault p = none := by
  induction ps with
  | nil => intro p hp; cases hp
  | cons x r ih =>
    unfold firstFault at h
    split at h
    · cases h
    · rename_i e
      intro p hp
      rcases List.mem_cons.mp hp with rfl | hp
      · exact e
      · exact ih h p hp
theorem quad_signs {q : List Nat} (h : quadFault q = none) : ∀ c ∈ q, c = 46 ∨ c ∈ hexU := by
  intro c hc
  unfold quadFault at h
  split at h
  · rcases dots_mem hc with h1 | ⟨p, hp, h1⟩
    · exact .inl h1
    · have := (fault_none (first_all h p hp)).2.1
      have := isDg_iff.mp (List.all_eq_true.mp this c h1)
      exact .inr (dg_ok c this.1 this.2)
  · cases h
theorem quad_dot {q : List Nat} (h : quadFault q = none) : 46 ∈ q := by
  refine Classical.byContradiction fun c => ?_
  have e : dots q = [q] := by unfold dots; rw [← sp1_spl, spl_last1 c, List.nil_append]
  unfold quadFault at h
  rw [e] at h
  cases h
theorem QG.free {q : List Nat} (h : QG q) : 58 ∉ q := fun hm => by
  have hq : q ≠ [] := fun e => by rw [e] at hm; cases hm
  rcases quad_signs (h.ok hq) _ hm with e | e
  · cases e
  · exact (hexU_ok _ e).2.2.2.1 rfl
theorem all_ok {ss : List (List Nat)} (h : ∀ s ∈ ss, ∀ c ∈ s, okSign c = true) : (J ss).all okSign = true := List.all_eq_true.mpr fun c hc => by
  rcases mem_J hc with e | ⟨s, hs, hc⟩
  · rw [e]; exact ok58
  · exact h s hs c hc
theorem QG.okS {q : List Nat} (h : QG q) : ∀ c ∈ q, okSign c = true := fun c hc => by
  have hq : q ≠ [] := fun e => by rw [e] at hc; cases hc
  rcases quad_signs (h.ok hq) c hc with e | e
  · rw [e]; exact ok46
  · exact (hexU_ok _ e).1
/-- what stands before a version 4 text: parts I, then the last part q -/
theorem quad_sh {z : Str} {I : List (List Nat)} {q : List Nat} (hz : tl z = J (I ++ [q])) (hq : q ≠ []) (hQ : QG q) (hI : ∀ s ∈ I, 46 ∉ s) (hf : Fr I) :
    wrongQuad z = false ∧ quadOf z = tS q ∧ plainOf z = tS (J (I ++ [[]])) := by
  have hz2 : tl z = J (I ++ [[]]) ++ q := by rw [hz, J_snoc]
  have hP : J (I ++ [[]]) = [] ∨ ∃ P', J (I ++ [[]]) = P' ++ [58] := by
    by_cases h : I = []
    · rw [h]; exact .inl rfl
    · exact .inr ⟨J I, J_end h⟩
  have hp := place_eq hz2 hQ.free hP
  have h46 : 46 ∈ z.cps.toList := by
    show 46 ∈ tl z
    rw [hz2]; exact List.mem_append_right _ (quad_dot (hQ.ok hq))
  have c1 : cutS z (some (qPlace z)) none = tS q := by rw [hp]; exact cut_hi hz2
  have c2 : cutS z none (some (qPlace z)) = tS (J (I ++ [[]])) := by rw [hp]; exact cut_lo hz2
  have n46 : 46 ∉ J (I ++ [[]]) := fun hm => by
    rcases mem_J hm with e | ⟨s, hs, hc⟩
    · cases e
    · rcases List.mem_append.mp hs with hs | hs
      · exact hI s hs hc
      · rw [List.mem_singleton.mp hs] at hc; cases hc
  have eq : quadOf z = tS q := by unfold quadOf; rw [if_pos h46, c1]
  refine ⟨?_, eq, ?_⟩
  · unfold wrongQuad
    rw [c1, c2, tl_tS, hQ.ok hq, decide_eq_false (show ¬ 46 ∈ (tS (J (I ++ [[]]))).cps.toList from n46)]
    simp
  · unfold plainOf
    rw [eq, if_neg (fun e => hq (by have := congrArg tl e; exact this)), c2]
theorem noquad_sh {z : Str} (h : 46 ∉ tl z) : wrongQuad z = false ∧ quadOf z = ("" : Str) ∧ plainOf z = z := by
  have h2 : ¬ 46 ∈ z.cps.toList := h
  have e : quadOf z = ("" : Str) := by unfold quadOf; rw [if_neg h2]
  refine ⟨?_, e, ?_⟩
  · unfold wrongQuad; rw [decide_eq_false h2]; rfl
  · unfold plainOf; rw [if_pos e]
theorem fault_of {z : Str} {ss : List (List Nat)} {p : P6} (hz : tl z = J ss) (hf : Fr ss) (ho : ∀ s ∈ ss, ∀ c ∈ s, okSign c = true) (hq : wrongQuad z = false) (hg : gaps2 ss = false) (he : sC ss = sC2 ss) (hr : sC ss.reverse = sC2 ss.reverse)
    (hp : partsOf z = p) (hl : ∀ g ∈ p.ahead ++ p.behind.getD [], g.length ≤ 4) (hw : p.wrong = false) : g6Fault z = none := by
  unfold g6Fault
  rw [hz, all_ok ho, if_neg (by simp), hq, if_neg (by simp), gaps_sh hz hf, hg, if_neg (by simp), ends_sh hz hf, he, hr, if_neg (by simp), hp, hw, if_neg, if_neg (by simp)]
  intro h
  have : (p.ahead ++ p.behind.getD []).all (fun g => decide ((g.length : Int) < 5)) = true := List.all_eq_true.mpr fun g hg => decide_eq_true (by have := hl g hg; omega)
  rw [this] at h
  cases h
theorem sC_good {A : List (List Nat)} {s : List Nat} (h : s ≠ []) : sC (s :: A) = false := by
  match s, h with
  | c :: s, _ => rfl
theorem sC2_good {A : List (List Nat)} {s : List Nat} (h : s ≠ []) : sC2 (s :: A) = false := by
  match s, h with
  | c :: s, _ => rfl
theorem HGs.fr {A : List (List Nat)} (h : ∀ g ∈ A, HG g) : Fr A := fun g hg => (h g hg).free
theorem qs_mem {q s : List Nat} (h : s ∈ qs q) : s = q ∧ q ≠ [] := by
  unfold qs at h
  split at h
  · cases h
  · rename_i c; exact ⟨List.mem_singleton.mp h, c⟩
theorem tS_len (g : List Nat) : (tS g).length = g.length := len_tl _
theorem tS_empty {q : List Nat} : tS q = ("" : Str) ↔ q = [] := ⟨fun e => by have := congrArg tl e; exact this, fun e => by rw [e]; rfl⟩
/-- eight groups -/
theorem read_whole {A : List (List Nat)} {q : List Nat} (hA : ∀ g ∈ A, HG g) (hQ : QG q) (hn : A.length + (if q = [] then 0 else 2) = 8) {z : Str} (hz : tl z = J (A ++ qs q)) :
    g6Fault z = none ∧ partsOf z = ⟨A.map tS, none, tS q⟩ := by
  have hne : ∀ g ∈ A, g ≠ [] := fun g hg => (hA g hg).ne
  have hnS : ∀ g ∈ A ++ qs q, g ≠ [] := fun g hg => by
    rcases List.mem_append.mp hg with hg | hg
    · exact hne g hg
    · rw [(qs_mem hg).1]; exact (qs_mem hg).2
  have hf : Fr (A ++ qs q) := fun g hg => by
    rcases List.mem_append.mp hg with hg | hg
    · exact (hA g hg).free
    · rw [(qs_mem hg).1]; exact hQ.free
  have ho : ∀ s ∈ A ++ qs q, ∀ c ∈ s, okSign c = true := fun g hg => by
    rcases List.mem_append.mp hg with hg | hg
    · exact (hA g hg).ok
    · rw [(qs_mem hg).1]; exact hQ.okS
  have hsc : ∀ ss : List (List Nat), (∀ g ∈ ss, g ≠ []) → sC ss = sC2 ss := fun ss h => by
    match ss, h with
    | [], _ => rfl
    | s :: r, h => rw [sC_good (h s (by simp)), sC2_good (h s (by simp))]
  have core : wrongQuad z = false ∧ partsOf z = ⟨A.map tS, none, tS q⟩ := by
    by_cases hq : q = []
    · subst hq
      have hz' : tl z = J A := by rw [hz]; unfold qs; rw [if_pos rfl, List.append_nil]
      have n46 : 46 ∉ tl z := fun hm => by
        rw [hz'] at hm
        rcases mem_J hm with e | ⟨s, hs, hc⟩
        · cases e
        · exact (hA s hs).nodot hc
      obtain ⟨w1, w2, w3⟩ := noquad_sh n46
      refine ⟨w1, ?_⟩
      have hfA := HGs.fr hA
      unfold partsOf
      rw [w3, inS_par _ _ (by rw [tl_colon2]; simp), tl_colon2, hz', par_gap _ hfA, gap_good hne, if_neg (by simp), ← tS_tl z, hz', rstrip_J hfA, rs_good hne, hexG_good hfA hne]
      rw [← hz', tS_tl, w2]; rfl
    · have hz' : tl z = J (A ++ [q]) := by rw [hz]; unfold qs; rw [if_neg hq]
      obtain ⟨w1, w2, w3⟩ := quad_sh hz' hq hQ (fun s hs => (hA s hs).nodot) (HGs.fr hA)
      refine ⟨w1, ?_⟩
      have hfe : Fr (A ++ [[]]) := fun g hg => by
        rcases List.mem_append.mp hg with hg | hg
        · exact (hA g hg).free
        · rw [List.mem_singleton.mp hg]; simp
      unfold partsOf
      rw [w3, inS_par _ _ (by rw [tl_colon2]; simp), tl_colon2, tl_tS, par_gap _ hfe, gap_none hne, if_neg (by simp), rstrip_J hfe, rs_end hne, hexG_good (HGs.fr hA) hne, w2]
  refine ⟨fault_of hz hf ho core.1 ?_ (hsc _ hnS) (hsc _ fun g hg => hnS g (List.mem_reverse.mp hg)) core.2 ?_ ?_, core.2⟩
  · unfold gaps2; rw [gap_good hnS]
  · intro g hg
    rw [show (P6.mk (A.map tS) none (tS q)).ahead ++ Option.getD (P6.mk (A.map tS) none (tS q)).behind [] = A.map tS from List.append_nil _] at hg
    obtain ⟨a, ha, rfl⟩ := List.mem_map.mp hg
    rw [tS_len]; exact (hA a ha).len
  · show (!decide (V.int (P6.many ⟨A.map tS, none, tS q⟩) = V.int 8)) = false
    have : P6.many ⟨A.map tS, none, tS q⟩ = 8 := by
      unfold P6.many
      show ((A.map tS).length : Int) + (0 : Nat) + 2 * (if tS q = ("" : Str) then 0 else 1) = 8
      rw [List.length_map]
      by_cases hq : q = []
      · rw [if_pos (tS_empty.mpr hq)]; rw [if_pos hq] at hn; omega
      · rw [if_neg (fun e => hq (tS_empty.mp e))]; rw [if_neg hq] at hn; omega
    rw [this]; rfl
theorem e1_mem {A : List (List Nat)} {s : List Nat} (h : s ∈ e1 A) : s = [] ∨ s ∈ A := by
  unfold e1 at h
  split at h
  · exact .inl (List.mem_singleton.mp h)
  · exact .inr h
theorem J_gap (A B : List (List Nat)) : J (e1 A ++ [] :: e1 B) = J A ++ 58 :: 58 :: J B := by
  rw [J_app (e1_ne A) (by simp), J_e1]
  have : J ([] :: e1 B) = 58 :: J (e1 B) := by
    match h : e1 B, e1_ne B with
    | x :: y, _ => rfl
  rw [this, J_e1]
theorem sC_e1 {B : List (List Nat)} (hn : ∀ g ∈ B, g ≠ []) : sC (e1 B) = false := by
  unfold e1
  split
  · rfl
  · match B, hn with
    | [], _ => rfl
    | s :: r, hn => exact sC_good (hn s (by simp))
theorem gap_e1 {B : List (List Nat)} (hn : ∀ g ∈ B, g ≠ []) : gap (e1 B) = none := by
  unfold e1
  split
  · rfl
  · exact gap_good hn
theorem sC_mid {A B : List (List Nat)} (hn : ∀ g ∈ A, g ≠ []) : sC (e1 A ++ [] :: e1 B) = sC2 (e1 A ++ [] :: e1 B) := by
  unfold e1
  split
  · split
    · rfl
    · rename_i h
      match B, h with
      | x :: y, _ => rfl
  · match A, hn with
    | [], _ => rename_i h; exact absurd rfl h
    | s :: r, hn => show sC (s :: (r ++ _)) = sC2 (s :: (r ++ _)); rw [sC_good (hn s (by simp)), sC2_good (hn s (by simp))]
theorem e1_rev (A : List (List Nat)) : (e1 A).reverse = e1 A.reverse := by
  unfold e1
  by_cases h : A = []
  · rw [h]; rfl
  · rw [if_neg h, if_neg (by simpa using h)]
/-- a gap of two colons -/
theorem read_gap {A B : List (List Nat)} {q : List Nat} (hA : ∀ g ∈ A, HG g) (hB : ∀ g ∈ B, HG g) (hQ : QG q) (hn : A.length + B.length + (if q = [] then 0 else 2) ≤ 7) {z : Str} (hz : tl z = J A ++ 58 :: 58 :: J (B ++ qs q)) :
    g6Fault z = none ∧ partsOf z = ⟨A.map tS, some (B.map tS), tS q⟩ := by
  have neA : ∀ g ∈ A, g ≠ [] := fun g hg => (hA g hg).ne
  have neB : ∀ g ∈ B, g ≠ [] := fun g hg => (hB g hg).ne
  have neS : ∀ g ∈ B ++ qs q, g ≠ [] := fun g hg => by
    rcases List.mem_append.mp hg with hg | hg
    · exact neB g hg
    · rw [(qs_mem hg).1]; exact (qs_mem hg).2
  have hz1 : tl z = J (e1 A ++ [] :: e1 (B ++ qs q)) := by rw [hz, J_gap]
  have mem : ∀ {P : List Nat → Prop}, P [] → (∀ g ∈ A, P g) → (∀ g ∈ B, P g) → (q ≠ [] → P q) → ∀ s ∈ e1 A ++ [] :: e1 (B ++ qs q), P s := by
    intro P h0 h1 h2 h3 s hs
    rcases List.mem_append.mp hs with hs | hs
    · rcases e1_mem hs with e | hs
      · rw [e]; exact h0
      · exact h1 s hs
    · rcases List.mem_cons.mp hs with e | hs
      · rw [e]; exact h0
      · rcases e1_mem hs with e | hs
        · rw [e]; exact h0
        · rcases List.mem_append.mp hs with hs | hs
          · exact h2 s hs
          · rw [(qs_mem hs).1]; exact h3 (qs_mem hs).2
  have hf : Fr (e1 A ++ [] :: e1 (B ++ qs q)) := mem (P := fun s => 58 ∉ s) (by simp) (fun g hg => (hA g hg).free) (fun g hg => (hB g hg).free) (fun _ => hQ.free)
  have ho : ∀ s ∈ e1 A ++ [] :: e1 (B ++ qs q), ∀ c ∈ s, okSign c = true := mem (P := fun s => ∀ c ∈ s, okSign c = true) (by simp) (fun g hg => (hA g hg).ok) (fun g hg => (hB g hg).ok) (fun _ => hQ.okS)
  have hgap : gap (e1 A ++ [] :: e1 (B ++ qs q)) = some (e1 A, e1 (B ++ qs q)) := gap_mid (e1_ne _) neA
  have hfe : Fr (e1 A) := fun s hs => by
    rcases e1_mem hs with e | hs
    · rw [e]; simp
    · exact (hA s hs).free
  have core : wrongQuad z = false ∧ partsOf z = ⟨A.map tS, some (B.map tS), tS q⟩ := by
    have eA : hexGroups (tS (J A)) = A.map tS := hexG_good (HGs.fr hA) neA
    by_cases hq : q = []
    · subst hq
      have eqs : B ++ qs [] = B := by unfold qs; rw [if_pos rfl, List.append_nil]
      rw [eqs] at hz1 hgap hf
      have n46 : 46 ∉ tl z := fun hm => by
        rw [hz1] at hm
        rcases mem_J hm with e | ⟨s, hs, hc⟩
        · cases e
        · exact mem (P := fun s => 46 ∉ s) (by simp) (fun g hg => (hA g hg).nodot) (fun g hg => (hB g hg).nodot) (fun h => absurd rfl h) s (by rw [eqs]; exact hs) hc
      obtain ⟨w1, w2, w3⟩ := noquad_sh n46
      refine ⟨w1, ?_⟩
      have pp : par [58, 58] [] (tl z) = some (J (e1 A), J (e1 B)) := by rw [hz1, par_gap _ hf, hgap]; rfl
      have part : Txt.partition z ("::" : Str) = (tS (J (e1 A)), ("::" : Str), tS (J (e1 B))) := by
        rw [partition_par _ _ (by rw [tl_colon2]; simp), tl_colon2, pp]
      unfold partsOf
      rw [w3, inS_par _ _ (by rw [tl_colon2]; simp), tl_colon2, pp, if_pos (show (some _).isSome = true from rfl), part, w2]
      show P6.mk (hexGroups (tS (J (e1 A)))) (some (hexGroups (Txt.rstripChars (tS (J (e1 B))) (":" : Str)))) _ = _
      rw [J_e1, J_e1, eA, rstrip_J (HGs.fr hB), rs_good neB, hexG_good (HGs.fr hB) neB]; rfl
    · have eqs : B ++ qs q = B ++ [q] := by unfold qs; rw [if_neg hq]
      have ee : e1 (B ++ [q]) = B ++ [q] := by unfold e1; rw [if_neg (by simp)]
      rw [eqs, ee] at hz1 hgap hf
      have hz2 : tl z = J ((e1 A ++ [] :: B) ++ [q]) := by rw [hz1]; simp
      have mI : ∀ s ∈ e1 A ++ [] :: B, 46 ∉ s ∧ 58 ∉ s := fun s hs => by
        rcases List.mem_append.mp hs with hs | hs
        · rcases e1_mem hs with e | hs
          · rw [e]; simp
          · exact ⟨(hA s hs).nodot, (hA s hs).free⟩
        · rcases List.mem_cons.mp hs with e | hs
          · rw [e]; simp
          · exact ⟨(hB s hs).nodot, (hB s hs).free⟩
      obtain ⟨w1, w2, w3⟩ := quad_sh hz2 hq hQ (fun s hs => (mI s hs).1) (fun s hs => (mI s hs).2)
      refine ⟨w1, ?_⟩
      have eI : (e1 A ++ [] :: B) ++ [[]] = e1 A ++ [] :: (B ++ [[]]) := by simp
      have hfB : Fr (B ++ [[]]) := fun s hs => by
        rcases List.mem_append.mp hs with hs | hs
        · exact (hB s hs).free
        · rw [List.mem_singleton.mp hs]; simp
      have hfI : Fr (e1 A ++ [] :: (B ++ [[]])) := fun s hs => by
        rcases List.mem_append.mp hs with hs | hs
        · exact hfe s hs
        · rcases List.mem_cons.mp hs with e | hs
          · rw [e]; simp
          · exact hfB s hs
      have pp : par [58, 58] [] (J (e1 A ++ [] :: (B ++ [[]]))) = some (J (e1 A), J (B ++ [[]])) := by rw [par_gap _ hfI, gap_mid (by simp) neA]; rfl
      have part : Txt.partition (tS (J (e1 A ++ [] :: (B ++ [[]])))) ("::" : Str) = (tS (J (e1 A)), ("::" : Str), tS (J (B ++ [[]]))) := by
        rw [partition_par _ _ (by rw [tl_colon2]; simp), tl_colon2, tl_tS, pp]
      unfold partsOf
      rw [w3, eI, inS_par _ _ (by rw [tl_colon2]; simp), tl_colon2, tl_tS, pp, if_pos (show (some _).isSome = true from rfl), part, w2]
      show P6.mk (hexGroups (tS (J (e1 A)))) (some (hexGroups (Txt.rstripChars (tS (J (B ++ [[]]))) (":" : Str)))) _ = _
      rw [J_e1, eA, rstrip_J hfB, rs_end neB, hexG_good (HGs.fr hB) neB]
  refine ⟨fault_of hz1 hf ho core.1 ?_ (sC_mid neA) ?_ core.2 ?_ ?_, core.2⟩
  · unfold gaps2
    rw [hgap]
    show (sC (e1 (B ++ qs q)) || (gap (e1 (B ++ qs q))).isSome) = false
    rw [sC_e1 neS, gap_e1 neS]; rfl
  · have er : (e1 A ++ [] :: e1 (B ++ qs q)).reverse = e1 (B ++ qs q).reverse ++ [] :: e1 A.reverse := by
      rw [List.reverse_append, List.reverse_cons, e1_rev, e1_rev]; simp
    rw [er]
    exact sC_mid fun g hg => neS g (List.mem_reverse.mp hg)
  · intro g hg
    have hg : g ∈ A.map tS ++ B.map tS := hg
    rcases List.mem_append.mp hg with hg | hg
    · obtain ⟨a, ha, rfl⟩ := List.mem_map.mp hg
      rw [tS_len]; exact (hA a ha).len
    · obtain ⟨a, ha, rfl⟩ := List.mem_map.mp hg
      rw [tS_len]; exact (hB a ha).len
  · show decide (7 < P6.many ⟨A.map tS, some (B.map tS), tS q⟩) = false
    refine decide_eq_false ?_
    unfold P6.many
    show ¬ 7 < ((A.map tS).length : Int) + ((B.map tS).length : Int) + 2 * (if tS q = ("" : Str) then 0 else 1)
    rw [List.length_map, List.length_map]
    by_cases hq : q = []
    · rw [if_pos (tS_empty.mpr hq)]; rw [if_pos hq] at hn; omega
    · rw [if_neg (fun e => hq (tS_empty.mp e))]; rw [if_neg hq] at hn; omega
/-- the groups' numbers -/
def gv (g : List Nat) : Nat := hval (g.map lo1)
theorem map_num {A : List (List Nat)} (hA : ∀ g ∈ A, HG g) : (A.map tS).map hexNum = A.map gv := by
  rw [List.map_map]
  exact List.map_congr_left fun g hg => (hA g hg).num
def qv (q : List Nat) : List Nat := if q = [] then [] else [quadVal (dots q) / 65536, quadVal (dots q) % 65536]
theorem qMore_tS (q : List Nat) : qMore (tS q) = qv q := by
  unfold qMore qv
  by_cases h : q = []
  · rw [if_pos (tS_empty.mpr h), if_pos h]
  · rw [if_neg (fun e => h (tS_empty.mp e)), if_neg h, tl_tS]
theorem val_whole {A : List (List Nat)} {q : List Nat} (hA : ∀ g ∈ A, HG g) (hn : A.length + (if q = [] then 0 else 2) = 8) : P6.val ⟨A.map tS, none, tS q⟩ = val16 (A.map gv ++ qv q) := by
  unfold P6.val
  have e1 : P6.first ⟨A.map tS, none, tS q⟩ = A.map gv ++ qv q := by
    show (A.map tS).map hexNum ++ qMore (tS q) = _
    rw [map_num hA, qMore_tS]
  have e2 : P6.last ⟨A.map tS, none, tS q⟩ = [] := rfl
  rw [e1, e2]
  have e3 : (A.map gv ++ qv q).length = 8 := by
    unfold qv
    rw [List.length_append, List.length_map]
    split <;> rename_i h
    · rw [if_pos h] at hn; simpa using hn
    · rw [if_neg h] at hn; simpa using hn
  rw [e3]; simp
theorem val_gap {A B : List (List Nat)} {q : List Nat} (hA : ∀ g ∈ A, HG g) (hB : ∀ g ∈ B, HG g) : P6.val ⟨A.map tS, some (B.map tS), tS q⟩ = val16 (A.map gv ++ List.replicate (8 - A.length - (B.length + (qv q).length)) 0 ++ (B.map gv ++ qv q)) := by
  unfold P6.val
  have e1 : P6.first ⟨A.map tS, some (B.map tS), tS q⟩ = A.map gv := by
    show (A.map tS).map hexNum ++ [] = _
    rw [map_num hA, List.append_nil]
  have e2 : P6.last ⟨A.map tS, some (B.map tS), tS q⟩ = B.map gv ++ qv q := by
    show (B.map tS).map hexNum ++ qMore (tS q) = _
    rw [map_num hB, qMore_tS]
  rw [e1, e2, List.length_map, List.length_append, List.length_map]
theorem hexOk_of {A : List (List Nat)} {o : Option (List (List Nat))} {q : Str} (hA : ∀ g ∈ A, HG g) (hB : ∀ B, o = some B → ∀ g ∈ B, HG g) : ∀ g ∈ (P6.mk (A.map tS) (o.map fun B => B.map tS) q).ahead ++ Option.getD (P6.mk (A.map tS) (o.map fun B => B.map tS) q).behind [], hexOk g := by
  intro g hg
  rcases List.mem_append.mp hg with hg | hg
  · obtain ⟨a, ha, rfl⟩ := List.mem_map.mp hg
    exact (hA a ha).hexOk
  · cases o with
    | none => cases hg
    | some B =>
      obtain ⟨a, ha, rfl⟩ := List.mem_map.mp hg
      exact (hB B rfl a ha).hexOk
/-- a text that is read, and its number -/
structure Good6 (z : Str) (n : Nat) : Prop where
  ok : g6Fault z = none
  hex : ∀ g ∈ (partsOf z).ahead ++ (partsOf z).behind.getD [], hexOk g
  val : (partsOf z).val = n
theorem good_whole {A : List (List Nat)} {q : List Nat} (hA : ∀ g ∈ A, HG g) (hQ : QG q) (hn : A.length + (if q = [] then 0 else 2) = 8) {z : Str} (hz : tl z = J (A ++ qs q)) : Good6 z (val16 (A.map gv ++ qv q)) := by
  obtain ⟨h1, h2⟩ := read_whole hA hQ hn hz
  exact ⟨h1, by rw [h2]; exact hexOk_of (o := none) hA (fun _ e => by cases e), by rw [h2]; exact val_whole hA hn⟩
theorem good_gap {A B : List (List Nat)} {q : List Nat} (hA : ∀ g ∈ A, HG g) (hB : ∀ g ∈ B, HG g) (hQ : QG q) (hn : A.length + B.length + (if q = [] then 0 else 2) ≤ 7) {z : Str} (hz : tl z = J A ++ 58 :: 58 :: J (B ++ qs q)) :
    Good6 z (val16 (A.map gv ++ List.replicate (8 - A.length - (B.length + (qv q).length)) 0 ++ (B.map gv ++ qv q))) := by
  obtain ⟨h1, h2⟩ := read_gap hA hB hQ hn hz
  exact ⟨h1, by rw [h2]; exact hexOk_of (o := some B) hA (fun _ e => by cases e; exact hB), by rw [h2]; exact val_gap hA hB⟩
theorem qg0 : QG [] := ⟨fun h => absurd rfl h⟩
/-! ### the written texts -/
theorem hd16_U : ∀ d, d < 16 → hd16 d ∈ hexU := by decide +kernel
theorem hexL_lo (n : Nat) : (hexL n).map lo1 = hexL n := by
  rw [List.map_congr_left (g := id), List.map_id]
  intro c hc
  obtain ⟨d, hd, rfl⟩ := hexL_all n c hc
  exact (hd16_ok d hd).2.2.1
theorem hexL_HG {n : Nat} (h : n < 65536) : HG (hexL n) := by
  refine ⟨fun e => ?_, hexL_len (by decide) h, fun c hc => ?_⟩
  · have := hexL_pos n
    rw [e] at this; simp at this
  · obtain ⟨d, hd, rfl⟩ := hexL_all n c hc
    exact hd16_U d hd
theorem gv_hexL (n : Nat) : gv (hexL n) = n := by unfold gv; rw [hexL_lo, hexL_val]
theorem hval_zero (k : Nat) (l : List Nat) : hval (List.replicate k 48 ++ l) = hval l := by
  unfold hval
  rw [List.foldl_append]
  congr 1
  induction k with
  | zero => rfl
  | succ k ih =>
    rw [List.replicate_succ, List.foldl_cons]
    have : 0 * 16 + hx 48 = 0 := by decide +kernel
    rw [this, ih]
theorem hexZL_HG {n W : Nat} (hW : W ≤ 4) (h : n < 65536) : HG (tl (hexZ W n)) := by
  have hl := (hexL_HG h).len
  refine ⟨fun e => ?_, ?_, fun c hc => ?_⟩
  · have := hexL_pos n
    rw [hexZ_tl] at e
    have := congrArg List.length e
    rw [List.length_append] at this
    simp at this
    have : hexL n = [] := this.2
    rw [this] at hl
    have := hexL_pos n
    simp_all
  · rw [hexZ_tl, List.length_append, List.length_replicate]; omega
  · rw [hexZ_tl] at hc
    rcases List.mem_append.mp hc with hc | hc
    · rw [(List.mem_replicate.mp hc).2]; decide
    · exact (hexL_HG h).hex c hc
theorem gv_hexZ (W n : Nat) : gv (tl (hexZ W n)) = n := by
  unfold gv
  rw [hexZ_tl, List.map_append, List.map_replicate, hexL_lo]
  have : lo1 48 = 48 := by decide +kernel
  rw [this, hval_zero, hexL_val]
theorem val_gN {n : Int} (h0 : 0 ≤ n) (h1 : n < 340282366920938463463374607431768211456) : (val16 (gN n) : Int) = n := by
  have e : ∀ s : Nat, ((n / 2 ^ s % 65536).toNat : Int) = n / 2 ^ s % 65536 := fun s => Int.toNat_of_nonneg (by omega)
  have p0 : (2 : Int) ^ 0 = 1 := by decide
  have p1 : (2 : Int) ^ 16 = 65536 := by decide
  have p2 : (2 : Int) ^ 32 = 4294967296 := by decide
  have p3 : (2 : Int) ^ 48 = 281474976710656 := by decide
  have p4 : (2 : Int) ^ 64 = 18446744073709551616 := by decide
  have p5 : (2 : Int) ^ 80 = 1208925819614629174706176 := by decide
  have p6 : (2 : Int) ^ 96 = 79228162514264337593543950336 := by decide
  have p7 : (2 : Int) ^ 112 = 5192296858534827628530496329220096 := by decide
  have c0 := e 0
  have c1 := e 16
  have c2 := e 32
  have c3 := e 48
  have c4 := e 64
  have c5 := e 80
  have c6 := e 96
  have c7 := e 112
  unfold val16 gN
  simp only [List.map_cons, List.map_nil, List.foldl_cons, List.foldl_nil]
  rw [p0] at *; rw [p1] at *; rw [p2] at *; rw [p3] at *; rw [p4] at *; rw [p5] at *; rw [p6] at *; rw [p7] at *
  omega
theorem gs_split : ∀ a b c d e f g h : Bool, (lrGo 0 0 0 0 [a, b, c, d, e, f, g, h]).1 + (lrGo 0 0 0 0 [a, b, c, d, e, f, g, h]).2 ≤ 8 ∧
    ((([a, b, c, d, e, f, g, h].drop (lrGo 0 0 0 0 [a, b, c, d, e, f, g, h]).1).take (lrGo 0 0 0 0 [a, b, c, d, e, f, g, h]).2).all id) = true := by decide +kernel
theorem join_J (xs : List Str) : tl (Txt.join (":" : Str) xs) = J (xs.map tl) := by rw [join_eq, tl_join, tl_colon]
theorem lr_facts (n : Int) : (lr (gN n)).1 + (lr (gN n)).2 ≤ 8 ∧ ((gN n).drop (lr (gN n)).1).take (lr (gN n)).2 = List.replicate (lr (gN n)).2 0 := by
  obtain ⟨a, b, c, d, e, f, g, h, hg⟩ : ∃ a b c d e f g h : Nat, gN n = [a, b, c, d, e, f, g, h] := ⟨_, _, _, _, _, _, _, _, rfl⟩
  have k := gs_split (decide (a = 0)) (decide (b = 0)) (decide (c = 0)) (decide (d = 0)) (decide (e = 0)) (decide (f = 0)) (decide (g = 0)) (decide (h = 0))
  have ez : zs (gN n) = [decide (a = 0), decide (b = 0), decide (c = 0), decide (d = 0), decide (e = 0), decide (f = 0), decide (g = 0), decide (h = 0)] := by rw [hg]; rfl
  unfold lr
  rw [← ez] at k
  refine ⟨k.1, ?_⟩
  have k2 := k.2
  have em : ((zs (gN n)).drop (lrGo 0 0 0 0 (zs (gN n))).1).take (lrGo 0 0 0 0 (zs (gN n))).2 = (((gN n).drop (lrGo 0 0 0 0 (zs (gN n))).1).take (lrGo 0 0 0 0 (zs (gN n))).2).map fun g => decide (g = 0) := by
    rw [List.map_take, List.map_drop]; rfl
  rw [em] at k2
  refine List.eq_replicate_iff.mpr ⟨?_, fun x hx => ?_⟩
  · rw [List.length_take, List.length_drop, gN_len]; omega
  · have := List.all_eq_true.mp k2 (decide (x = 0)) (List.mem_map.mpr ⟨x, hx, rfl⟩)
    exact of_decide_eq_true this
theorem gv_map (gs : List Nat) : (gs.map hexL).map gv = gs := by
  rw [List.map_map]
  have : (gv ∘ hexL) = id := funext gv_hexL
  rw [this, List.map_id]
theorem map_tl_hexS (gs : List Nat) : (gs.map hexS).map tl = gs.map hexL := by rw [List.map_map]; rfl
theorem good_g6S {n : Int} (h0 : 0 ≤ n) (h1 : n < 340282366920938463463374607431768211456) : Good6 (g6S n) n.toNat := by
  have hv := val_gN h0 h1
  have hv2 : val16 (gN n) = n.toNat := by omega
  have hA : ∀ g ∈ (gN n).map hexL, HG g := fa_map fun g hg => hexL_HG (gN_b n g hg)
  by_cases hm : (lr (gN n)).2 < 2
  · have hz : tl (g6S n) = J ((gN n).map hexL ++ qs []) := by
      unfold g6S g6T
      rw [if_pos hm, join_J, map_tl_hexS]
      unfold qs
      rw [if_pos rfl, List.append_nil]
    have k := good_whole hA qg0 (by rw [List.length_map, gN_len]; rfl) hz
    rw [gv_map] at k
    have e : gN n ++ qv [] = gN n := List.append_nil _
    rw [e, hv2] at k
    exact k
  · obtain ⟨l1, l2⟩ := lr_facts n
    have hz : tl (g6S n) = J (((gN n).take (lr (gN n)).1).map hexL) ++ 58 :: 58 :: J (((gN n).drop ((lr (gN n)).1 + (lr (gN n)).2)).map hexL ++ qs []) := by
      unfold g6S g6T
      rw [if_neg hm, tl_append, tl_append, join_J, join_J, tl_colon2, map_tl_hexS, map_tl_hexS]
      unfold qs
      rw [if_pos rfl, List.append_nil, List.append_assoc]; rfl
    have k := good_gap (fun g hg => hA g ?_) (fun g hg => hA g ?_) qg0 ?_ hz
    · rw [gv_map, gv_map] at k
      have e : (gN n).drop ((lr (gN n)).1 + (lr (gN n)).2) ++ qv [] = (gN n).drop ((lr (gN n)).1 + (lr (gN n)).2) := List.append_nil _
      have el : 8 - (((gN n).take (lr (gN n)).1).map hexL).length - ((((gN n).drop ((lr (gN n)).1 + (lr (gN n)).2)).map hexL).length + (qv []).length) = (lr (gN n)).2 := by
        rw [List.length_map, List.length_map, List.length_take, List.length_drop, gN_len]
        show 8 - _ - (_ + 0) = _
        omega
      rw [e, el, ← l2, ← List.drop_drop, List.append_assoc, List.take_append_drop, List.take_append_drop, hv2] at k
      exact k
    · rw [List.map_take] at hg; exact List.mem_of_mem_take hg
    · rw [List.map_drop] at hg; exact List.mem_of_mem_drop hg
    · rw [List.length_map, List.length_map, List.length_take, List.length_drop, gN_len, if_pos rfl]; omega
theorem good_f6S {n : Int} (h0 : 0 ≤ n) (h1 : n < 340282366920938463463374607431768211456) : Good6 (f6S n) n.toNat := by
  have hv := val_gN h0 h1
  have hv2 : val16 (gN n) = n.toNat := by omega
  have e1 : ((gN n).map (hexZ 4)).map tl = (gN n).map fun g => tl (hexZ 4 g) := by rw [List.map_map]; rfl
  have hz : tl (f6S n) = J (((gN n).map fun g => tl (hexZ 4 g)) ++ qs []) := by
    unfold f6S
    rw [join_J, e1]
    unfold qs
    rw [if_pos rfl, List.append_nil]
  have k := good_whole (A := (gN n).map fun g => tl (hexZ 4 g)) (fa_map fun g hg => hexZL_HG (Nat.le_refl 4) (gN_b n g hg)) qg0 (by rw [List.length_map, gN_len]; rfl) hz
  have e2 : ((gN n).map fun g => tl (hexZ 4 g)).map gv = gN n := by
    rw [List.map_map]
    have : (gv ∘ fun g => tl (hexZ 4 g)) = id := funext (gv_hexZ 4)
    rw [this, List.map_id]
  have e : gN n ++ qv [] = gN n := List.append_nil _
  rw [e2, e, hv2] at k
  exact k
theorem g6S_len (n : Int) : (g6S n).length ≤ 100 := by
  have hs : ∀ g ∈ (gN n).map hexS, g.length ≤ 4 := fa_map fun g hg => hexS_len (gN_b n g hg)
  have jl : ∀ xs : List Str, (∀ g ∈ xs, g.length ≤ 4) → xs.length ≤ 8 → (Txt.join (":" : Str) xs).length ≤ 40 := fun xs h h2 => Nat.le_trans (join_len (k := 4) h) (Nat.le_trans (Nat.mul_le_mul_right _ h2) (by decide +kernel))
  have c2 : ("::" : Str).length = 2 := by decide +kernel
  unfold g6S g6T
  split
  · exact Nat.le_trans (jl _ hs (by rw [List.length_map, gN_len]; omega)) (by decide)
  · have a := jl (((gN n).take (lr (gN n)).1).map hexS) (fun g hg => hs g (by rw [List.map_take] at hg; exact List.mem_of_mem_take hg)) (by rw [List.length_map, List.length_take, gN_len]; omega)
    have b := jl (((gN n).drop ((lr (gN n)).1 + (lr (gN n)).2)).map hexS) (fun g hg => hs g (by rw [List.map_drop] at hg; exact List.mem_of_mem_drop hg)) (by rw [List.length_map, List.length_drop, gN_len]; omega)
    rw [Str_len_app, Str_len_app, c2]; omega
theorem f6S_len (n : Int) : (f6S n).length ≤ 100 := by
  unfold f6S
  exact Nat.le_trans (join_len (k := 4) (fa_map fun g hg => Nat.le_of_eq (hexZ_len (gN_b n g hg)))) (by rw [List.length_map, gN_len]; decide +kernel)
theorem g6S_sz (n : Int) : (g6S n).length ≤ sizeLine := sizeL (Nat.le_trans (g6S_len n) (by decide))
theorem chars_J {A : List (List Nat)} (hA : ∀ g ∈ A, HG g) : ∀ c ∈ J A, c = 58 ∨ c ∈ hexU := fun c hc => by
  rcases mem_J hc with e | ⟨s, hs, hc⟩
  · exact .inl e
  · exact .inr ((hA s hs).hex c hc)
theorem g6S_chars (n : Int) : ∀ c ∈ tl (g6S n), c = 58 ∨ c ∈ hexU := by
  have hA : ∀ g ∈ (gN n).map hexL, HG g := fa_map fun g hg => hexL_HG (gN_b n g hg)
  unfold g6S g6T
  split
  · rw [join_J, map_tl_hexS]
    exact chars_J hA
  · rw [tl_append, tl_append, join_J, join_J, tl_colon2, map_tl_hexS, map_tl_hexS]
    intro c hc
    rcases List.mem_append.mp hc with hc | hc
    · rcases List.mem_append.mp hc with hc | hc
      · exact chars_J (fun g hg => hA g (by rw [List.map_take] at hg; exact List.mem_of_mem_take hg)) c hc
      · refine .inl ?_
        simpa using hc
    · exact chars_J (fun g hg => hA g (by rw [List.map_drop] at hg; exact List.mem_of_mem_drop hg)) c hc
theorem f6S_chars (n : Int) : ∀ c ∈ tl (f6S n), c = 58 ∨ c ∈ hexU := by
  unfold f6S
  rw [join_J, List.map_map]
  exact chars_J (fa_map fun g hg => hexZL_HG (Nat.le_refl 4) (gN_b n g hg))
theorem strOk_chars {z : Str} (h : ∀ c ∈ tl z, c = 58 ∨ c ∈ hexU) : PyData.strOk z = true := strOk_of fun c hc => by
  rcases h c hc with rfl | h
  · decide
  · have := (hexU_ok c h).2.2.1
    omega
theorem strOk6 (n : Int) : PyData.strOk (g6S n) = true := strOk_chars (g6S_chars n)
theorem strOkF (n : Int) : PyData.strOk (f6S n) = true := strOk_chars (f6S_chars n)

theorem same_made {H H' : Hp} {a dx : Addr} {o o' : HO} (na : H a = none) (ndx : H dx = none) (e : Same (upd (upd H dx (.own a)) a o) H') : Same H (upd H' a o') := fun b u h => by
  have hb : b ≠ a := fun z => by rw [z, na] at h; cases h
  have hd : b ≠ dx := fun z => by rw [z, ndx] at h; cases h
  rw [upd_ne hb]
  refine e b u ?_
  rw [upd_ne hb, upd_ne hd]; exact h

abbrev s_is_integer : Stmt := (top 33)
abbrev N_is_integer : List Str := [("thing" : Str)]
theorem sc_is_integer : FnScope N_is_integer [("thing" : Str)] (defScope s_is_integer) := ⟨rfl, rfl, rfl, by decide +kernel, rfl, by decide +kernel, by decide +kernel⟩
def sp_is_integer (K : Frag) : Sp := fun vs H Q E => ∃ (x : V) (t : Value) (b1 b2 : Bool), vs = [x] ∧ TyX K H x t ∧ kitOne K t (.type "int") = some b1 ∧ kitOne K t (.type "bool") = some b2 ∧ Q (.bl (b1 && !b2)) H
theorem ok_is_integer (T : Tx K mg) : FnG P w K mg base 1 "is_integer" (sp_is_integer K) := by
  refine ⟨fnr T.d_is_integer sc_is_integer (fun vs H Q E h => by obtain ⟨x, t, b1, b2, rfl, ht, k1, k2, q⟩ := h; rfl) (fun _ _ _ _ _ _ us hl => match us, hl with | [_], _ => rfl) (fun cdv A outer s H vs Q E hr h => ?_), T.kp_is_integer, T.g_is_integer⟩
  have nd := sc_is_integer.nd
  have hu := hu_of hr
  obtain ⟨x, t, b1, b2, rfl, ht, k1, k2, q⟩ := h
  refine ⟨_, PSs.nox (pss_one (ps_ret (pe_and (pe_callB (c_isi K) (by rfl) T.f_isinstance bb_isinstance (pa_cons (pv 0) (pa_cons (pe_bltn (v := .ty "int") (u := .type "int") rfl T.f_int bb_int rfl) pa_nil))) (pe_one (pe_not (pe_callB (c_isi K) (by rfl) T.f_isinstance bb_isinstance (pa_cons (pv 0) (pa_cons (pe_bltn (v := .ty "bool") (u := .type "bool") rfl T.f_bool bb_bool rfl) pa_nil)))))))), ?_⟩
  walk_at "rd"
  refine ⟨_, _, _, _, b1, rfl, .ty _, ht, k1, ?_⟩
  cases b1 with
  | false =>
    walk_at "rd"
    exact q
  | true =>
    walk_at "rd"
    refine ⟨_, _, _, _, b2, rfl, .ty _, ht, k2, ?_⟩
    walk_at "rd"
    exact q
theorem kit_ii {K : Frag} : kitOne K (.type "int") (.type "int") = some true := kit_ty (by decide +kernel)
theorem kit_ib {K : Frag} : kitOne K (.type "int") (.type "bool") = some false := kit_ty (by decide +kernel)
theorem kit_si {K : Frag} : kitOne K (.type "str") (.type "int") = some false := kit_ty (by decide +kernel)
theorem kit_sb {K : Frag} : kitOne K (.type "str") (.type "bool") = some false := kit_ty (by decide +kernel)
theorem kit_ss {K : Frag} : kitOne K (.type "str") (.type "str") = some true := kit_ty (by decide +kernel)
theorem kit_bb {K : Frag} : kitOne K (.type "bool") (.type "bool") = some true := kit_ty (by decide +kernel)
abbrev s_is_from_int : Stmt := (top 34)
abbrev N_is_from_int : List Str := [("thing" : Str), ("low" : Str), ("high" : Str)]
theorem sc_is_from_int : FnScope N_is_from_int [("thing" : Str), ("low" : Str), ("high" : Str)] (defScope s_is_from_int) := ⟨rfl, rfl, rfl, by decide +kernel, rfl, by decide +kernel, by decide +kernel⟩
def sp_is_from_int (K : Frag) : Sp := fun vs H Q E => ∃ i lo hi : Int, vs = [.int i, .int lo, .int hi] ∧ Q (.bl (decide (lo ≤ i) && decide (i ≤ hi))) H
theorem ok_is_from_int (T : Tx K mg) : FnG P w K mg base 2 "is_from" (sp_is_from_int K) := by
  have F_is_integer := ok_is_integer (P := P) (w := w) (base := base) T
  refine ⟨fnr T.d_is_from sc_is_from_int (fun vs H Q E h => by obtain ⟨i, lo, hi, rfl, q⟩ := h; rfl) (fun _ _ _ _ _ _ us hl => match us, hl with | [_, _, _], _ => rfl) (fun cdv A outer s H vs Q E hr h => ?_), T.kp_is_from, T.g_is_from⟩
  have nd := sc_is_from_int.nd
  have hu := hu_of hr
  obtain ⟨i, lo, hi, rfl, q⟩ := h
  refine ⟨_, PSs.nox (pss_one (ps_ret (pe_and (pe_f F_is_integer (hr.mono (by decide)) passL (pa_cons (pv 0) pa_nil)) (pe_one (pe_chain op_le op_le (pv 1) (pv 0) (pv 2)))))), ?_⟩
  walk_at "rd"
  refine ⟨_, _, true, false, rfl, .base (.int i), kit_ii, kit_ib, ?_⟩
  walk_at "rd"
  cases h : decide (lo ≤ i) with
  | false =>
    rw [h] at q
    exact q
  | true =>
    rw [h] at q
    walk_at "rd"
    exact q
abbrev s_number_of_int : Stmt := (top 36)
abbrev N_number_of_int : List Str := [("value" : Str), ("width" : Str)]
theorem sc_number_of_int : FnScope N_number_of_int [("value" : Str), ("width" : Str)] (defScope s_number_of_int) := ⟨rfl, rfl, rfl, by decide +kernel, rfl, by decide +kernel, by decide +kernel⟩
def sp_number_of_int (K : Frag) : Sp := fun vs H Q E => ∃ i b : Int, vs = [.int i, .int b] ∧ (b = 32 ∨ b = 128) ∧ 0 ≤ i ∧ i < 2 ^ b.toNat ∧ Q (.int i) H
theorem ok_number_of_int (T : Tx K mg) : FnG P w K mg base 3 "number_of" (sp_number_of_int K) := by
  have F_is_integer := ok_is_integer (P := P) (w := w) (base := base) T
  have F_is_from_int := ok_is_from_int (P := P) (w := w) (base := base) T
  refine ⟨fnr T.d_number_of sc_number_of_int (fun vs H Q E h => by obtain ⟨i, b, rfl, hb, h0, h1, q⟩ := h; rfl) (fun _ _ _ _ _ _ us hl => match us, hl with | [_, _], _ => rfl) (fun cdv A outer s H vs Q E hr h => ?_), T.kp_number_of, T.g_number_of⟩
  have nd := sc_number_of_int.nd
  have hu := hu_of hr
  obtain ⟨i, b, rfl, hb, h0, h1, q⟩ := h
  refine ⟨_, PSs.nox (pss_cons (ps_if (pt_val (pe_f F_is_integer (hr.mono (by decide)) passL (pa_cons (pv 0) pa_nil))) (pss_cons (ps_if (pt_not (pt_val (pe_f F_is_from_int (hr.mono (by decide)) passL (pa_cons (pv 0) (pa_cons pe_int (pa_cons (pe_op op_sub (pe_op op_shlW pe_int (pv 1)) pe_int) pa_nil)))))) (pss_one ps_never)
        pss_nil)
        (pss_one (ps_ret (pv 0))))
        pss_nil)
        pss_never), ?_⟩
  have hb2 : 0 ≤ b ∧ b ≤ 1000 := by omega
  walk_at "rd"
  refine ⟨_, _, true, false, rfl, .base (.int i), kit_ii, kit_ib, ?_⟩
  walk_at "rd"
  refine ⟨_, _, _, rfl, ?_⟩
  have e1 : decide (0 ≤ i) = true := decide_eq_true h0
  have e2 : decide (i ≤ 1 * 2 ^ b.toNat - 1) = true := decide_eq_true (by omega)
  rw [e1, e2]
  walk_at "rd"
  exact q
abbrev s_number_of_str4 : Stmt := (top 36)
abbrev N_number_of_str4 : List Str := [("value" : Str), ("width" : Str)]
theorem sc_number_of_str4 : FnScope N_number_of_str4 [("value" : Str), ("width" : Str)] (defScope s_number_of_str4) := ⟨rfl, rfl, rfl, by decide +kernel, rfl, by decide +kernel, by decide +kernel⟩
def sp_number_of_str4 (K : Frag) : Sp := fun vs H Q E => ∃ z : Str, vs = [.str z, .int 32] ∧ z.length ≤ 100000 ∧ quadFault (tl z) = none ∧ ∀ H', Same H H' → Q (.int (quadVal (dots (tl z)))) H'
theorem ok_number_of_str4 (T : Tx K mg) : FnG P w K mg base 4 "number_of" (sp_number_of_str4 K) := by
  have F_is_integer := ok_is_integer (P := P) (w := w) (base := base) T
  have F_read_quad := ok_read_quad (P := P) (w := w) (base := base) T
  refine ⟨fnr T.d_number_of sc_number_of_str4 (fun vs H Q E h => by obtain ⟨z, rfl, hz, hq, q⟩ := h; rfl) (fun _ _ _ _ _ _ us hl => match us, hl with | [_, _], _ => rfl) (fun cdv A outer s H vs Q E hr h => ?_), T.kp_number_of, T.g_number_of⟩
  have nd := sc_number_of_str4.nd
  have hu := hu_of hr
  obtain ⟨z, rfl, hz, hq, q⟩ := h
  refine ⟨_, PSs.nox (pss_cons (ps_if (pt_val (pe_f F_is_integer (hr.mono (by decide)) passL (pa_cons (pv 0) pa_nil))) pss_never
        pss_nil)
        (pss_cons (ps_if (pt_val (pe_callB (c_isi K) (by rfl) T.f_isinstance bb_isinstance (pa_cons (pv 0) (pa_cons (pe_bltn (v := .ty "str") (u := .type "str") rfl T.f_str bb_str rfl) pa_nil)))) (pss_one (ps_ret (pe_ifExp (pt_cmpR op_eq (pv 1) (pe_gi T.i_WIDTH4) (nomark _)) (pe_f F_read_quad (hr.mono (by decide)) passL (pa_cons (pv 0) pa_nil)) pe_never)))
        pss_nil)
        pss_never)), ?_⟩
  walk_at "rd"
  refine ⟨_, _, false, false, rfl, .base (.str z), kit_si, kit_sb, ?_⟩
  walk_at "rd"
  refine ⟨_, _, _, _, true, rfl, .ty _, .base (.str z), kit_ss, ?_⟩
  walk_at "rd"
  exact ⟨hz, hq, q⟩
theorem dots_join {ps : List (List Nat)} (h : ps ≠ []) (hp : ∀ p ∈ ps, 46 ∉ p) : dots (joinL [46] ps) = ps := by
  unfold dots
  rw [← sp1_spl]
  exact spl_join h hp
theorem numL_ok : ∀ v : Nat, v < 256 → partFault (numL v) = none := by decide +kernel
theorem parts_tl (n : Int) : (quadParts n).map tl = [24, 16, 8, 0].map fun s : Nat => numL (n / 2 ^ s % 256).toNat := by
  unfold quadParts
  rw [List.map_map]
  refine List.map_congr_left fun s _ => ?_
  exact numS_tl (part_b n s).1
theorem quad_dots (n : Int) : dots (tl (quadS n)) = [24, 16, 8, 0].map fun s : Nat => numL (n / 2 ^ s % 256).toNat := by
  rw [quadS_tl, parts_tl]
  refine dots_join (by simp) fun p hp => ?_
  obtain ⟨s, _, rfl⟩ := List.mem_map.mp hp
  exact numL_free (.inl (by decide))
theorem quad_good (n : Int) : quadFault (tl (quadS n)) = none := by
  unfold quadFault
  rw [quad_dots]
  rw [if_pos (by rfl)]
  refine first_of fun p hp => ?_
  obtain ⟨s, _, rfl⟩ := List.mem_map.mp hp
  have b := part_b n s
  exact numL_ok _ (by omega)
theorem quad_back {n : Int} (h0 : 0 ≤ n) (h1 : n < 4294967296) : (quadVal (dots (tl (quadS n))) : Int) = n := by
  rw [quad_dots]
  unfold quadVal
  simp only [List.map_cons, List.map_nil, List.foldl_cons, List.foldl_nil, numL_val]
  have e24 : (2 : Int) ^ 24 = 16777216 := by decide
  have e16 : (2 : Int) ^ 16 = 65536 := by decide
  have e8 : (2 : Int) ^ 8 = 256 := by decide
  have e0 : (2 : Int) ^ 0 = 1 := by decide
  rw [e24, e16, e8, e0]
  omega

abbrev s__law_quad : Stmt := (top 44)
abbrev N__law_quad : List Str := [("_law_number_here" : Str), ("_law_shift" : Str)]
theorem sc__law_quad : FnScope N__law_quad [("_law_number_here" : Str)] (defScope s__law_quad) := ⟨rfl, rfl, rfl, by decide +kernel, rfl, by decide +kernel, by decide +kernel⟩
def sp__law_quad (K : Frag) : Sp := fun vs H Q E => ∃ n : Int, vs = [.int n] ∧ 0 ≤ n ∧ n < 2 ^ 130 ∧ ∀ H', Same H H' → Q (.str (quadS n)) H'
theorem ok__law_quad (T : Tx K mg) : FnG P w K mg base 1 "_law_quad" (sp__law_quad K) := by
  refine ⟨fnr T.d__law_quad sc__law_quad (fun vs H Q E h => by obtain ⟨n, rfl, h0, h1, q⟩ := h; rfl) (fun _ _ _ _ _ _ us hl => match us, hl with | [_], _ => rfl) (fun cdv A outer s H vs Q E hr h => ?_), T.kp__law_quad, T.g__law_quad⟩
  have nd := sc__law_quad.nd
  have hu := hu_of hr
  obtain ⟨n, rfl, h0, h1, q⟩ := h
  refine ⟨_, PSs.nox (pss_one (ps_ret (pe_join pe_str (pe_lc (own := [("_law_shift", 1)]) rfl nd (i_tup K (p_tup (pa_cons pe_int (pa_cons pe_int (pa_cons pe_int (pa_cons pe_int pa_nil)))))) (blkOk_by (own := [("_law_shift", 1)]) (N := N__law_quad) (sc := defScope s__law_quad) (by decide +kernel)) (fun _ _ _ _ _ => (pg_name (i := 1) nd rfl (Or.inl rfl))) (fun _ _ _ _ _ => pts_nil) (fun _ _ _ _ _ => (pe_callTy call_str_int (by rfl) T.f_str bb_str (pa_cons (pe_op op_and (pe_op op_shr (pv 0) (pv 1)) pe_int) pa_nil))))))), ?_⟩
  refine ⟨⟨_, rfl⟩, ?_⟩
  refine ⟨lz, fun p H0 s0 np hp0 => ?_⟩
  refine ⟨p, rfl, ⟨_, SqT.of hp0⟩, fun D nD => ?_⟩
  refine lc_mp ([24, 16, 8, 0] : List Nat) (fun s : Nat => V.int (s : Int)) (fun s : Nat => V.str (numS (n / 2 ^ s % 256))) (walk_tup (K := K) (a := p) (xs := ([24, 16, 8, 0] : List Nat).map fun s : Nat => V.int (s : Int))) rfl (by decide) yat_map nD (fun H' s' => SqT.of (s' _ _ hp0)) ?_ ?_
  · intro c hc H1 s1 Qe k
    refine ⟨rfl, ?_⟩
    walk_at "rd"
    have nn : 0 ≤ n / 2 ^ ((c : Int)).toNat := Int.ediv_nonneg h0 (by have := pow_pos' ((c : Int)).toNat; omega)
    have ea := and255 nn
    refine ⟨?_, ?_⟩
    · rw [ea]; exact log_small (by omega) (by omega)
    · rw [ea]; exact k H1 (Same.refl _)
  · intro H1 s1 h1
    have s2 := s0.trans s1
    refine ⟨_, _, quadParts n, rfl, rfl, Or.inl (SqL.of ?_), quadParts_sz h0, q _ s2⟩
    rw [h1]; rfl
abbrev s__law_groups : Stmt := (top 45)
abbrev N__law_groups : List Str := [("_law_number_here" : Str), ("_law_k" : Str)]
theorem sc__law_groups : FnScope N__law_groups [("_law_number_here" : Str)] (defScope s__law_groups) := ⟨rfl, rfl, rfl, by decide +kernel, rfl, by decide +kernel, by decide +kernel⟩
def sp__law_groups (K : Frag) : Sp := fun vs H Q E => ∃ n : Int, vs = [.int n] ∧ 0 ≤ n ∧ ∀ (p : Addr) (H' : Hp), Same H H' → H p = none → H' p = some (.lst ((gN n).map natV)) → Q (.ref p) H'
theorem ok__law_groups (T : Tx K mg) : FnG P w K mg base 1 "_law_groups" (sp__law_groups K) := by
  refine ⟨fnr T.d__law_groups sc__law_groups (fun vs H Q E h => by obtain ⟨n, rfl, h0, q⟩ := h; rfl) (fun _ _ _ _ _ _ us hl => match us, hl with | [_], _ => rfl) (fun cdv A outer s H vs Q E hr h => ?_), T.kp__law_groups, T.g__law_groups⟩
  have nd := sc__law_groups.nd
  have hu := hu_of hr
  obtain ⟨n, rfl, h0, q⟩ := h
  refine ⟨_, PSs.nox (pss_one (ps_ret (pe_lc (own := [("_law_k", 1)]) rfl nd (pi_range1 (by rfl) T.f_range (pa_cons pe_int pa_nil)) (blkOk_by (own := [("_law_k", 1)]) (N := N__law_groups) (sc := defScope s__law_groups) (by decide +kernel)) (fun _ _ _ _ _ => (pg_name (i := 1) nd rfl (Or.inl rfl))) (fun _ _ _ _ _ => pts_nil) (fun _ _ _ _ _ => (pe_op op_and (pe_op op_shr (pv 0) (pe_op op_sub pe_int (pe_op op_mul pe_int (pv 1)))) pe_int))))), ?_⟩
  walk_at "rd"
  refine ⟨by decide, by decide, fun D nD => ?_⟩
  refine lc_mpr 8 (fun i => V.int (0 + (i : Nat))) (fun i : Nat => natV (n / 2 ^ (112 - 16 * i) % 65536).toNat) (walk_range (lo := 0) (n := 8)) (by decide) (fun i H x H' h => h) nD (fun _ _ => trivial) ?_ ?_
  · intro i hi H1 s1 Qe k
    refine ⟨rfl, ?_⟩
    walk_at "rd"
    have et : (112 - 16 * (0 + (i : Int))).toNat = 112 - 16 * i := by omega
    refine q_eq (k H1 (Same.refl _)) ?_
    show _ = V.int (Builtin.bitAnd (n / 2 ^ (112 - 16 * (0 + (i : Int))).toNat) 65535)
    rw [et, and65535 (Int.ediv_nonneg h0 (by have := pow_pos' (112 - 16 * i); omega))]
    show V.int (((n / 2 ^ (112 - 16 * i) % 65536).toNat : Nat) : Int) = _
    rw [Int.toNat_of_nonneg (by omega)]
  intro H1 s1 h1
  walk_at "rd"
  exact q D H1 s1 nD (by rw [h1, gN_range, List.map_map]; rfl)
def padL (w : Nat) (l : List Nat) : List Nat := List.replicate (w - l.length) 48 ++ l
def hexN (m : Nat) : List Nat := if m = 0 then [] else hexL m
theorem padL_step {m k : Nat} {f : List Nat} (h : 0 < m ∨ f.length < k) : padL (k - (hd16 (m % 16) :: f).length) (hexN (m / 16)) ++ (hd16 (m % 16) :: f) = padL (k - f.length) (hexN m) ++ f := by
  have key : ∀ (w : Nat) (X : List Nat) (d : Nat), padL w (X ++ [d]) = padL (w - 1) X ++ [d] := by
    intro w X d
    unfold padL
    rw [List.length_append, List.append_assoc]
    congr 2
    show w - (X.length + 1) = w - 1 - X.length
    omega
  by_cases m0 : m = 0
  · subst m0
    have hf : f.length < k := by omega
    have h48 : hd16 0 = 48 := by decide +kernel
    show padL (k - (f.length + 1)) [] ++ hd16 0 :: f = padL (k - f.length) [] ++ f
    unfold padL
    rw [h48]
    obtain ⟨j, hj⟩ : ∃ j, k - f.length = j + 1 := ⟨k - f.length - 1, by omega⟩
    rw [hj, show k - (f.length + 1) = j by omega]
    show (List.replicate j 48 ++ []) ++ 48 :: f = (List.replicate (j + 1) 48 ++ []) ++ f
    rw [List.append_nil, List.append_nil, List.replicate_succ']
    simp
  · have e : hexN m = hexN (m / 16) ++ [hd16 (m % 16)] := by
      unfold hexN
      rw [if_neg m0]
      by_cases h16 : m < 16
      · rw [hexL_lt h16, if_pos (by omega), Nat.mod_eq_of_lt h16]; rfl
      · rw [hexL_step (by omega), if_neg (by omega)]
    rw [e, key]
    show padL (k - (f.length + 1)) _ ++ _ = _
    rw [show k - (f.length + 1) = k - f.length - 1 by omega]
    simp
theorem padL_start {k n : Nat} (hk : 1 ≤ k) : padL k (hexN n) = tl (hexZ k n) := by
  rw [hexZ_tl]
  unfold hexN
  by_cases h : n = 0
  · subst h
    have e : hexL 0 = [48] := by decide +kernel
    rw [if_pos rfl, e]
    unfold padL
    obtain ⟨j, rfl⟩ : ∃ j, k = j + 1 := ⟨k - 1, by omega⟩
    show List.replicate (j + 1) 48 ++ [] = List.replicate j 48 ++ [48]
    rw [List.append_nil, List.replicate_succ']
  · rw [if_neg h]; rfl
theorem hd16_at : ∀ d, d < 16 → (tl ("0123456789abcdef" : Str))[d]? = some (hd16 d) := by decide +kernel
theorem hexZ1 (n : Nat) : hexZ 1 n = hexS n := by
  refine ext_tl ?_
  have := hexL_pos n
  rw [hexZ_tl, hexS_tl, show 1 - (hexL n).length = 0 by omega]; rfl
abbrev s__law_hex : Stmt := (top 46)
abbrev N__law_hex : List Str := [("_law_number_here" : Str), ("_law_least" : Str), ("_law_found" : Str)]
theorem sc__law_hex : FnScope N__law_hex [("_law_number_here" : Str), ("_law_least" : Str)] (defScope s__law_hex) := ⟨rfl, rfl, rfl, by decide +kernel, rfl, by decide +kernel, by decide +kernel⟩
def sp__law_hex (K : Frag) : Sp := fun vs H Q E => ∃ (n k : Int), vs = [.int n, .int k] ∧ 0 ≤ n ∧ n < 1361129467683753853853498429727072845824 ∧ 1 ≤ k ∧ k ≤ 32 ∧ Q (.str (hexZ k.toNat n.toNat)) H
theorem ok__law_hex (T : Tx K mg) : FnG P w K mg base 1 "_law_hex" (sp__law_hex K) := by
  refine ⟨fnr T.d__law_hex sc__law_hex (fun vs H Q E h => by obtain ⟨n, k, rfl, hn0, hn', hk, hk2, q⟩ := h; rfl) (fun _ _ _ _ _ _ us hl => match us, hl with | [_, _], _ => rfl) (fun cdv A outer s H vs Q E hr h => ?_), T.kp__law_hex, T.g__law_hex⟩
  have nd := sc__law_hex.nd
  have hu := hu_of hr
  obtain ⟨n, k, rfl, hn0, hn', hk, hk2, q⟩ := h
  refine ⟨_, PSs.nox (pss_cons (ps_set (i := 2) nd rfl (Or.inl rfl) pe_str)
        (pss_cons (ps_while PassesOwn.never (PW.pt (pw_or (pt_cmpR op_gt (pv 0) pe_int (nomark _)) (pw_or1 (pt_cmpR op_lt (pe_callB (c_lenv K) (by rfl) T.f_len bb_len (pa_cons (pv 2) pa_nil)) (pv 1) (nomark _))))) (pss_cons (ps_set (i := 2) nd rfl (Or.inl rfl) (pe_op op_add_str (pe_ix ix_str pe_str (pe_op op_mod (pe_callTy call_int1 (by rfl) T.f_int bb_int (pa_cons (pv 0) pa_nil)) pe_int) (fun _ _ => rfl)) (pv 2)))
        (pss_one (ps_set (i := 0) nd rfl (Or.inl rfl) (pe_op op_fdivW (pv 0) pe_int)))))
        (pss_one (ps_ret (pv 2))))), ?_⟩
  obtain ⟨n, rfl⟩ := Int.eq_ofNat_of_zero_le hn0
  obtain ⟨k, rfl⟩ := Int.eq_ofNat_of_zero_le (show 0 ≤ k by omega)
  have hn : n < 2 ^ 130 := by
    have e : (2 : Nat) ^ 130 = 1361129467683753853853498429727072845824 := by decide +kernel
    rw [e]; omega
  have hk : 1 ≤ k := by omega
  have hk2 : k ≤ 32 := by omega
  change Q (.str (hexZ k n)) H at q
  walk_at "rd"
  refine ⟨fun mm σ H2 => ∃ (m : Nat) (f : List Nat), mm = m + (k - f.length) ∧ m < 2 ^ 130 ∧ H2 = H ∧ σ = [some (.int (m : Int)), some (.int (k : Int)), some (.str (tS f))] ∧ padL (k - f.length) (hexN m) ++ f = tl (hexZ k n), ⟨_, n, [], rfl, hn, rfl, rfl, by rw [List.append_nil]; exact padL_start hk⟩, ?_⟩
  rintro mm σ H2 ⟨m, f, rfl, hm, rfl, rfl, hp⟩
  walk_at "rd"
  have el : (tS f).length = f.length := tS_len f
  have hf : f.length ≤ 200 := by
    have h1 := congrArg List.length hp
    have h2 := hexL_len (n := n) (k := 33) (by decide) (Nat.lt_of_lt_of_le hn (by decide))
    rw [hexZ_tl, List.length_append, List.length_append, List.length_replicate] at h1
    omega
  by_cases m0 : 0 < m
  · refine itT (decide_eq_true (by omega)) ?_
    refine itT rfl ?_
    have hgo : 0 < m ∨ f.length < k := .inl m0
    refine ⟨fun σ' H' => ∃ m', m' < m + (k - f.length) ∧ ∃ (m2 : Nat) (f2 : List Nat), m' = m2 + (k - f2.length) ∧ m2 < 2 ^ 130 ∧ H' = H2 ∧ σ' = [some (.int (m2 : Int)), some (.int (k : Int)), some (.str (tS f2))] ∧ padL (k - f2.length) (hexN m2) ++ f2 = tl (hexZ k n), fun _ _ h => h, ?_⟩
    walk_at "rd"
    refine ⟨_, _, hd16 (m % 16), rfl, rfl, by decide +kernel, atI_nat (j := m % 16) (hd16_at _ (Nat.mod_lt m (by decide))), ?_⟩
    walk_at "rd"
    refine ⟨?_, ?_⟩
    · rw [el]
      exact sizeL (by show 1 + f.length ≤ _; omega)
    walk_at "rd"
    refine ⟨m / 16 + (k - (f.length + 1)), by omega, m / 16, hd16 (m % 16) :: f, rfl, by omega, rfl, ?_, by rw [padL_step hgo]; exact hp⟩
    have es : (⟨#[hd16 (m % 16)]⟩ : Str) ++ tS f = tS (hd16 (m % 16) :: f) := ext_tl (by rw [tl_append]; rfl)
    rw [← es]
    rfl
  · refine itF (decide_eq_false (by omega)) ?_
    walk_at "rd"
    refine ⟨_, f.length, rfl, ⟨sizeL (by rw [el]; omega), el⟩, ?_⟩
    walk_at "rd"
    by_cases fk : f.length < k
    · refine itT (decide_eq_true (by omega)) ?_
      have hgo : 0 < m ∨ f.length < k := .inr fk
      refine ⟨fun σ' H' => ∃ m', m' < m + (k - f.length) ∧ ∃ (m2 : Nat) (f2 : List Nat), m' = m2 + (k - f2.length) ∧ m2 < 2 ^ 130 ∧ H' = H2 ∧ σ' = [some (.int (m2 : Int)), some (.int (k : Int)), some (.str (tS f2))] ∧ padL (k - f2.length) (hexN m2) ++ f2 = tl (hexZ k n), fun _ _ h => h, ?_⟩
      walk_at "rd"
      refine ⟨_, _, hd16 (m % 16), rfl, rfl, by decide +kernel, atI_nat (j := m % 16) (hd16_at _ (Nat.mod_lt m (by decide))), ?_⟩
      walk_at "rd"
      refine ⟨?_, ?_⟩
      · rw [el]
        exact sizeL (by show 1 + f.length ≤ _; omega)
      walk_at "rd"
      refine ⟨m / 16 + (k - (f.length + 1)), by omega, m / 16, hd16 (m % 16) :: f, rfl, by omega, rfl, ?_, by rw [padL_step hgo]; exact hp⟩
      have es : (⟨#[hd16 (m % 16)]⟩ : Str) ++ tS f = tS (hd16 (m % 16) :: f) := ext_tl (by rw [tl_append]; rfl)
      rw [← es]
      rfl
    · refine itF (decide_eq_false (by omega)) ?_
      walk_at "rd"
      refine q_eq q ?_
      have m00 : m = 0 := by omega
      subst m00
      rw [show k - f.length = 0 by omega] at hp
      have hp : f = tl (hexZ k n) := hp
      rw [← tS_tl (hexZ k n), ← hp]
/-! ### any text of a version 6 address -/
structure Shard (g : Nat) (t : Str) : Prop where
  ok : HG (tl t)
  val : gv (tl t) = g
theorem up_lo : ∀ c, c < 128 → lo1 (up1 c) = lo1 c := by decide +kernel
theorem up_hexU : ∀ c ∈ hexU, up1 c ∈ hexU := by decide +kernel
theorem Shard.len {g : Nat} {t : Str} (h : Shard g t) : t.length ≤ 4 := by rw [len_tl]; exact h.ok.len
theorem Shard.upper {g : Nat} {t : Str} (h : Shard g t) : Shard g (Txt.upper t) := by
  have ha : ∀ c ∈ t.cps.toList, c < 128 := fun c hc => (hexU_ok _ (h.ok.hex _ (show c ∈ tl t from hc))).2.2.1
  have e : tl (Txt.upper t) = (tl t).map up1 := by
    rw [upper_ascii ha]
    show (t.cps.map up1).toList = _
    rw [Array.toList_map]
  refine ⟨⟨?_, ?_, ?_⟩, ?_⟩
  · rw [e]; exact fun z => h.ok.ne (List.map_eq_nil_iff.mp z)
  · rw [e, List.length_map]; exact h.ok.len
  · rw [e]
    intro c hc
    obtain ⟨d, hd, rfl⟩ := List.mem_map.mp hc
    exact up_hexU d (h.ok.hex d hd)
  · rw [e]
    have e2 : gv ((tl t).map up1) = gv (tl t) := by
      unfold gv
      rw [List.map_map]
      congr 1
      exact List.map_congr_left fun c hc => up_lo c (ha c hc)
    rw [e2]; exact h.val
theorem hval_pad (W : Nat) (l : List Nat) : hval (List.replicate W 48 ++ l) = hval l := by
  induction W with
  | zero => rfl
  | succ W ih =>
    rw [List.replicate_succ]
    unfold hval at ih ⊢
    rw [List.cons_append, List.foldl_cons]
    have : 0 * 16 + hx 48 = 0 := by decide +kernel
    rw [this]; exact ih
theorem shard_hexZ {g W : Nat} (hW : W ≤ 4) (h : g < 65536) : Shard g (hexZ W g) := by
  refine ⟨hexZL_HG hW h, ?_⟩
  rw [hexZ_tl]
  unfold gv
  rw [List.map_append, List.map_replicate, hexL_lo]
  have : lo1 48 = 48 := by decide +kernel
  rw [this, hval_pad, hexL_val]
/-- the shards of some groups -/
def Shards : List Nat → List Str → Prop
  | [], [] => True
  | g :: gs, t :: ts => Shard g t ∧ Shards gs ts
  | _, _ => False
theorem Shards.snoc : ∀ {gs : List Nat} {ts : List Str} {g : Nat} {t : Str}, Shards gs ts → Shard g t → Shards (gs ++ [g]) (ts ++ [t])
  | [], [], _, _, _, h => ⟨h, trivial⟩
  | _ :: gs, _ :: ts, _, _, h, k => ⟨h.1, Shards.snoc h.2 k⟩
  | [], _ :: _, _, _, h, _ => h.elim
  | _ :: _, [], _, _, h, _ => h.elim
theorem Shards.len : ∀ {gs : List Nat} {ts : List Str}, Shards gs ts → ts.length = gs.length
  | [], [], _ => rfl
  | _ :: gs, _ :: ts, h => by rw [List.length_cons, List.length_cons, Shards.len h.2]
  | [], _ :: _, h => h.elim
  | _ :: _, [], h => h.elim
theorem Shards.all : ∀ {gs : List Nat} {ts : List Str}, Shards gs ts → (∀ t ∈ ts.map tl, HG t) ∧ (ts.map tl).map gv = gs
  | [], [], _ => ⟨fun t h => (by cases h), rfl⟩
  | _ :: gs, _ :: ts, h => by
    obtain ⟨a, b⟩ := Shards.all h.2
    exact ⟨fa_cons h.1.ok a, by rw [List.map_cons, List.map_cons, h.1.val, b]⟩
  | [], _ :: _, h => h.elim
  | _ :: _, [], h => h.elim
theorem Shards.take : ∀ {gs : List Nat} {ts : List Str} (k : Nat), Shards gs ts → Shards (gs.take k) (ts.take k)
  | [], [], k, _ => by simp [Shards]
  | _ :: gs, _ :: ts, 0, h => trivial
  | _ :: gs, _ :: ts, k + 1, h => ⟨h.1, Shards.take k h.2⟩
  | [], _ :: _, _, h => h.elim
  | _ :: _, [], _, h => h.elim
/-- the texts of an address: e groups, and the quad behind six -/
structure Texts (n : Int) (e : Nat) (ts : List Str) : Prop where
  ex : ∃ (A : List (List Nat)) (q : List Nat), ts.map tl = A ++ qs q ∧ (∀ g ∈ A, HG g) ∧ QG q ∧ A.length = e ∧ A.map gv = (gN n).take e ∧ qv q = (gN n).drop e ∧ (e = 8 ∧ q = [] ∨ e = 6 ∧ q ≠ [])
  short : ∀ t ∈ ts, t.length ≤ 16
theorem Texts.le8 {n : Int} {e : Nat} {ts : List Str} (h : Texts n e ts) : ts.length ≤ 8 ∧ (e = 8 ∨ e = 6) ∧ e ≤ ts.length := by
  obtain ⟨A, q, h1, _, _, h4, _, _, h7⟩ := h.ex
  have := congrArg List.length h1
  rw [List.length_map, List.length_append, h4] at this
  rcases h7 with ⟨rfl, rfl⟩ | ⟨rfl, hq⟩
  · have e0 : (qs []).length = 0 := rfl
    omega
  · have : (qs q).length = 1 := by unfold qs; rw [if_neg hq]; rfl
    omega
theorem texts_whole {n : Int} {ts : List Str} (h : Shards (gN n) ts) : Texts n 8 ts := by
  obtain ⟨a, b⟩ := h.all
  refine ⟨⟨ts.map tl, [], by simp [qs], a, qg0, by rw [List.length_map, h.len]; rfl, b, rfl, .inl ⟨rfl, rfl⟩⟩, fun t ht => ?_⟩
  have := (a _ (List.mem_map.mpr ⟨t, ht, rfl⟩)).len
  rw [len_tl]; omega
theorem gN_low {n : Int} (h0 : 0 ≤ n) : [(n % 4294967296).toNat / 65536, (n % 4294967296).toNat % 65536] = (gN n).drop 6 := by
  show _ = [(n / 2 ^ 16 % 65536).toNat, (n / 2 ^ 0 % 65536).toNat]
  have e16 : (2 : Int) ^ 16 = 65536 := by decide
  have e0 : (2 : Int) ^ 0 = 1 := by decide
  rw [e16, e0]
  congr 1
  · omega
  · congr 1; omega
theorem qg_quad (n : Int) : QG (tl (quadS n)) := ⟨fun _ => quad_good n⟩
theorem quad_ne0 (n : Int) : tl (quadS n) ≠ [] := fun e => by
  have := quad_dot (quad_good n)
  rw [e] at this
  cases this
theorem qv_of {n : Int} (h0 : 0 ≤ n) (h1 : n < 4294967296) : qv (tl (quadS n)) = [n.toNat / 65536, n.toNat % 65536] := by
  have := quad_back h0 h1
  unfold qv
  rw [if_neg (quad_ne0 n), show quadVal (dots (tl (quadS n))) = n.toNat by omega]
theorem texts_quad {n : Int} {ts : List Str} (h0 : 0 ≤ n) (h : Shards (gN n) ts) : Texts n 6 (ts.take 6 ++ [quadS (n % 4294967296)]) := by
  obtain ⟨a, b⟩ := (h.take 6).all
  have hq := qv_of (n := n % 4294967296) (by omega) (by omega)
  rw [gN_low h0] at hq
  refine ⟨⟨(ts.take 6).map tl, tl (quadS (n % 4294967296)), ?_, a, qg_quad _, ?_, b, hq, .inr ⟨rfl, quad_ne0 _⟩⟩, fun t ht => ?_⟩
  · rw [List.map_append]; unfold qs; rw [if_neg (quad_ne0 _)]; rfl
  · rw [List.length_map, (h.take 6).len]; rfl
  · rcases List.mem_append.mp ht with ht | ht
    · have := (a _ (List.mem_map.mpr ⟨t, ht, rfl⟩)).len
      rw [len_tl]; omega
    · rw [List.mem_singleton.mp ht]
      exact quadS_len (by omega)
theorem Texts.good {n : Int} {e : Nat} {ts : List Str} (h : Texts n e ts) (h0 : 0 ≤ n) (h1 : n < 340282366920938463463374607431768211456) : Good6 (Txt.join (":" : Str) ts) n.toNat := by
  obtain ⟨A, q, e1, hA, hQ, hl, hv, hq, hc⟩ := h.ex
  have hn : A.length + (if q = [] then 0 else 2) = 8 := by
    rcases hc with ⟨rfl, rfl⟩ | ⟨rfl, z⟩
    · rw [hl]; rfl
    · rw [hl, if_neg z]
  have k := good_whole hA hQ hn (z := Txt.join (":" : Str) ts) (by rw [join_J, e1])
  have hv2 := val_gN h0 h1
  rw [hv, hq, List.take_append_drop] at k
  rw [show val16 (gN n) = n.toNat by omega] at k
  exact k
theorem joinL_mem2 {s : Nat} : ∀ {ps : List (List Nat)}, 2 ≤ ps.length → s ∈ joinL [s] ps
  | [], h => by simp at h
  | [_], h => by simp at h
  | p :: q :: r, _ => by
    have e : joinL [s] (p :: q :: r) = p ++ ([s] ++ joinL [s] (q :: r)) := rfl
    rw [e]; simp
theorem Texts.colon {n : Int} {e : Nat} {ts : List Str} (h : Texts n e ts) : 58 ∈ tl (Txt.join (":" : Str) ts) := by
  have hl := h.le8
  rw [join_eq, tl_join, tl_colon]
  exact joinL_mem2 (by rw [List.length_map]; omega)
theorem colon2 (x y : Str) : 58 ∈ tl (x ++ ("::" : Str) ++ y) := by
  rw [tl_append, tl_append, tl_colon2]; simp
theorem Texts.gap {n : Int} {e b en : Nat} {ts : List Str} (h : Texts n e ts) (h0 : 0 ≤ n) (h1 : n < 340282366920938463463374607431768211456) (hb : b < en) (hen : en ≤ e) (hz : ((gN n).drop b).take (en - b) = List.replicate (en - b) 0) :
    Good6 (Txt.join (":" : Str) (ts.take b) ++ ("::" : Str) ++ Txt.join (":" : Str) (ts.drop en)) n.toNat := by
  obtain ⟨A, q, e1, hA, hQ, hl, hv, hq, hc⟩ := h.ex
  have hq8 : (qv q).length = 8 - e := by rw [hq, List.length_drop, gN_len]
  have he8 : e ≤ 8 := by omega
  have hz1 : tl (Txt.join (":" : Str) (ts.take b) ++ ("::" : Str) ++ Txt.join (":" : Str) (ts.drop en)) = J (A.take b) ++ 58 :: 58 :: J (A.drop en ++ qs q) := by
    rw [tl_append, tl_append, join_J, join_J, tl_colon2, List.map_take, List.map_drop, e1, List.take_append_of_le_length (by omega), List.drop_append_of_le_length (by omega), List.append_assoc]; rfl
  have k := good_gap (A := A.take b) (B := A.drop en) (fun g hg => hA g (List.mem_of_mem_take hg)) (fun g hg => hA g (List.mem_of_mem_drop hg)) hQ (by
    rw [List.length_take, List.length_drop, hl]
    rcases hc with ⟨rfl, rfl⟩ | ⟨rfl, z⟩
    · rw [if_pos rfl]; omega
    · rw [if_neg z]; omega) hz1
  have ev : (A.take b).map gv ++ List.replicate (8 - (A.take b).length - ((A.drop en).length + (qv q).length)) 0 ++ ((A.drop en).map gv ++ qv q) = gN n := by
    have l1 : (A.take b).length = b := by rw [List.length_take]; omega
    have l2 : (A.drop en).length = e - en := by rw [List.length_drop]; omega
    rw [l1, l2, hq8, show 8 - b - (e - en + (8 - e)) = en - b by omega, List.map_take, List.map_drop, hv, hq, ← hz]
    have a1 : ((gN n).take e).take b = (gN n).take b := by rw [List.take_take, Nat.min_eq_left (by omega)]
    have a2 : ((gN n).take e).drop en ++ (gN n).drop e = (gN n).drop en := by
      have : (gN n).drop en = ((gN n).take e ++ (gN n).drop e).drop en := by rw [List.take_append_drop]
      rw [this, List.drop_append_of_le_length (by rw [List.length_take, gN_len]; omega)]
    rw [a1, a2]
    have a3 : (gN n).drop b = ((gN n).drop b).take (en - b) ++ (gN n).drop en := by
      have := List.take_append_drop (en - b) ((gN n).drop b)
      rw [List.drop_drop, show b + (en - b) = en by omega] at this
      exact this.symm
    rw [List.append_assoc, ← a3, List.take_append_drop]
  rw [ev] at k
  have hv2 := val_gN h0 h1
  rw [show val16 (gN n) = n.toNat by omega] at k
  exact k
theorem sum16 {ts : List Str} (h : ∀ t ∈ ts, t.length ≤ 16) (hl : ts.length ≤ 8) : (ts.map (·.length)).sum + ts.length * (":" : Str).length ≤ 1000 := by
  have := sum_le (f := fun t : Str => t.length) (k := 16) h
  have l1 : (":" : Str).length = 1 := by decide +kernel
  rw [l1]; omega
theorem join_len16 {ts : List Str} (h : ∀ t ∈ ts, t.length ≤ 16) (hl : ts.length ≤ 8) : (Txt.join (":" : Str) ts).length ≤ 136 := by
  rw [len_tl, join_eq, tl_join]
  refine Nat.le_trans (joinL_len _ _) ?_
  have := sum_le (f := fun t : Str => t.length) (k := 16) h
  have e : (ts.map tl).map List.length = ts.map fun t : Str => t.length := by
    rw [List.map_map]
    exact List.map_congr_left fun t _ => (len_tl t).symm
  have l1 : (tl (":" : Str)).length = 1 := by decide +kernel
  rw [e, l1, List.length_map]; omega
theorem sum16' {ts : List Str} (h : ∀ t ∈ ts, t.length ≤ 16) (hl : ts.length ≤ 8) : (ts.map (·.length)).sum + ts.length * (":" : Str).length ≤ 16777216 := Nat.le_trans (sum16 h hl) (by decide)
/-! ### lists of numbers compared -/
def natD (g : Nat) : PyData := .int (g : Int)
theorem nats_dp {K : Frag} {H : Hp} : ∀ gs : List Nat, DpAll K H (gs.map natV) (gs.map natD)
  | [] => .nil
  | g :: r => .cons (.int _) (nats_dp r)
theorem nats_lay : ∀ gs : List Nat, PyData.canLayAll0 (gs.map natD) = true ∧ PyData.depthAll (gs.map natD) = 0
  | [] => ⟨by simp [PyData.canLayAll0], by simp [PyData.depthAll]⟩
  | g :: r => by
    obtain ⟨h1, h2⟩ := nats_lay r
    exact ⟨by simp [PyData.canLayAll0, PyData.canLay0, natD, h1], by simp [PyData.depthAll, PyData.depth, natD, h2]⟩
theorem nats_eqv : ∀ gs hs : List Nat, PyData.eqvAll (gs.map natD) (hs.map natD) = decide (gs = hs)
  | [], [] => by simp [PyData.eqvAll]
  | [], _ :: _ => by simp [PyData.eqvAll]
  | _ :: _, [] => by simp [PyData.eqvAll]
  | g :: gs, h :: hs => by
    rw [List.map_cons, List.map_cons, PyData.eqvAll, nats_eqv gs hs]
    by_cases e : g = h
    · subst e; simp [PyData.eqv, natD]
    · have e2 : ¬ (g : Int) = (h : Int) := fun z => e (by omega)
      simp [PyData.eqv, natD, e, e2]
theorem nats_cmp {K : Frag} {H : Hp} {p q : Addr} {gs hs : List Nat} {Q : VK} (h1 : SqL K H p (gs.map natV)) (h2 : SqL K H q (hs.map natV)) (k : Q (.bl (decide (gs = hs))) H) : rEqD K (.ref p) (.ref q) H Q := by
  have sh : ∀ gs : List Nat, SeqAt.shaped (.list (gs.map natD)) = true := fun gs => by
    obtain ⟨a, b⟩ := nats_lay gs
    unfold SeqAt.shaped
    simp [PyData.canLay0, a, PyData.depth, b]
  refine ⟨_, _, .lst h1 (nats_dp gs), .lst h2 (nats_dp hs), sh _, sh _, ?_⟩
  rw [show PyData.eqv (.list (gs.map natD)) (.list (hs.map natD)) = PyData.eqvAll (gs.map natD) (hs.map natD) by simp [PyData.eqv], nats_eqv]
  exact k
theorem cut_nat {xs : List V} {b e : Nat} (hb : b ≤ xs.length) (he : e ≤ xs.length) : cutV xs (some (b : Int)) (some (e : Int)) = (xs.drop b).take (e - b) := by
  unfold cutV
  have h1 : HT.sIx xs.length 0 (some (b : Int)) = b := by
    show (if (b : Int) < 0 then ((b : Int) + xs.length).toNat else min (b : Int).toNat xs.length) = b
    rw [if_neg (by omega), Int.toNat_natCast]; omega
  have h2 : HT.sIx xs.length xs.length (some (e : Int)) = e := by
    show (if (e : Int) < 0 then ((e : Int) + xs.length).toNat else min (e : Int).toNat xs.length) = e
    rw [if_neg (by omega), Int.toNat_natCast]; omega
  rw [h1, h2]
theorem cut_head {xs : List V} {e : Nat} (he : e ≤ xs.length) : cutV xs none (some (e : Int)) = xs.take e := by
  unfold cutV
  have h2 : HT.sIx xs.length xs.length (some (e : Int)) = e := by
    show (if (e : Int) < 0 then ((e : Int) + xs.length).toNat else min (e : Int).toNat xs.length) = e
    rw [if_neg (by omega), Int.toNat_natCast]; omega
  rw [h2]
  show (xs.drop 0).take (e - 0) = _
  rw [List.drop_zero, Nat.sub_zero]
theorem cut_tail {xs : List V} {b : Nat} (hb : b ≤ xs.length) : cutV xs (some (b : Int)) none = xs.drop b := by
  unfold cutV
  have h1 : HT.sIx xs.length 0 (some (b : Int)) = b := by
    show (if (b : Int) < 0 then ((b : Int) + xs.length).toNat else min (b : Int).toNat xs.length) = b
    rw [if_neg (by omega), Int.toNat_natCast]; omega
  rw [h1]
  show (xs.drop b).take (xs.length - b) = _
  rw [List.take_of_length_le (by rw [List.length_drop]; omega)]
/-! ### a list of pairs -/
/-- a pair b, e with P -/
def PairV (P : Nat → Nat → Prop) (H : Hp) (v : V) : Prop := ∃ (r : Addr) (x y : Int) (b e : Nat), v = .ref r ∧ H r = some (.tup [.int x, .int y]) ∧ x = b ∧ y = e ∧ P b e
theorem PairV.sml {P : Nat → Nat → Prop} {H H' : Hp} {v : V} (h : PairV P H v) (s : Sml H H') : PairV P H' v := by
  obtain ⟨r, x, y, b, e, h1, h2, h3⟩ := h
  exact ⟨r, x, y, b, e, h1, s _ _ h2 (fun _ z => by cases z), h3⟩
theorem PairV.same {P : Nat → Nat → Prop} {H H' : Hp} {v : V} (h : PairV P H v) (s : Same H H') : PairV P H' v := h.sml (Same.sml s)
theorem pairs_dp {K : Frag} {P : Nat → Nat → Prop} {H : Hp} : ∀ {vs : List V}, (∀ v ∈ vs, PairV P H v) → ∃ ds, DpAll K H vs ds ∧ PyData.canLayAll0 ds = true ∧ PyData.depthAll ds ≤ 2
  | [], _ => ⟨[], .nil, by simp [PyData.canLayAll0], by simp [PyData.depthAll]⟩
  | v :: r, h => by
    obtain ⟨ds, h1, h2, h3⟩ := pairs_dp (K := K) fun w hw => h w (List.mem_cons_of_mem (a := w) v hw)
    obtain ⟨p, x, y, b, e, rfl, ht, _⟩ := h v (List.mem_cons_self ..)
    refine ⟨.tuple [.int x, .int y] :: ds, .cons (.tup (SqT.of ht) (.cons (.int _) (.cons (.int _) .nil))) h1, ?_, ?_⟩
    · simp [PyData.canLayAll0, PyData.canLay0, h2]
    · simp [PyData.depthAll, PyData.depth]
      omega
theorem pairs_nil {K : Frag} {P : Nat → Nat → Prop} {H : Hp} {p q : Addr} {vs : List V} {Q : VK} (h1 : SqL K H p vs) (h2 : SqL K H q []) (ok : ∀ v ∈ vs, PairV P H v) (k : Q (.bl (vs.isEmpty)) H) : rEqD K (.ref p) (.ref q) H Q := by
  obtain ⟨ds, d1, d2, d3⟩ := pairs_dp (K := K) ok
  have sh : SeqAt.shaped (.list ds) = true := by
    unfold SeqAt.shaped
    simp [PyData.canLay0, d2, PyData.depth]
    omega
  refine ⟨.list ds, .list [], .lst h1 d1, .lst h2 .nil, sh, by decide +kernel, ?_⟩
  have e : PyData.eqv (.list ds) (.list []) = vs.isEmpty := by
    cases d1 with
    | nil => simp [PyData.eqv, PyData.eqvAll]
    | cons _ _ => simp [PyData.eqv, PyData.eqvAll]
  rw [e]
  exact k
theorem map_at {α : Type} {f : α → V} {xs : List α} {i : Nat} {x : V} (h : (xs.map f)[i]? = some x) : ∃ c, xs[i]? = some c ∧ x = f c := by
  rw [List.getElem?_map] at h
  cases q : xs[i]? with
  | none => rw [q] at h; cases h
  | some c => rw [q] at h; exact ⟨c, rfl, (Option.some.inj h).symm⟩
theorem mem_snoc {α : Type} {P : α → Prop} {xs : List α} {y : α} (h : ∀ v ∈ xs, P v) (k : P y) : ∀ v ∈ xs ++ [y], P v := fa_app h (fa_cons k fa_nil)
theorem rep_one (k : Nat) (v : V) : (List.replicate k [v]).flatten = List.replicate k v := by
  induction k with
  | zero => rfl
  | succ k ih => rw [List.replicate_succ, List.replicate_succ, List.flatten_cons, ih]; rfl
def Run (n : Int) (e : Nat) (b en : Nat) : Prop := b < en ∧ en ≤ e ∧ ((gN n).drop b).take (en - b) = List.replicate (en - b) 0
theorem for_list10 {g : TG} {tb : TS} {D : Ends} {H : Hp} {K : Frag} {u0 u1 u2 u3 u4 u5 u6 u7 u8 u9 : Option V} {a : Addr} {xs : List V} (hq : SqL K H a xs) (Pv : Option V → Option V → Option V → Option V → Option V → Option V → Option V → Option V → Option V → Option V → Hp → Nat → L2.St → Hp → Prop) (hl : ∀ i σ' H', Pv u0 u1 u2 u3 u4 u5 u6 u7 u8 u9 H i σ' H' → SqL K H' a xs) (h0 : Pv u0 u1 u2 u3 u4 u5 u6 u7 u8 u9 H 0 [u0, u1, u2, u3, u4, u5, u6, u7, u8, u9] H) (hs : ∀ i x σ' H', xs[i]? = some x → Pv u0 u1 u2 u3 u4 u5 u6 u7 u8 u9 H i σ' H' → g x σ' H' fun σ2 H2 => tb { D with nx := Pv u0 u1 u2 u3 u4 u5 u6 u7 u8 u9 H (i + 1), ct := Pv u0 u1 u2 u3 u4 u5 u6 u7 u8 u9 H (i + 1), bk := D.nx } σ2 H2) (hd : ∀ σ' H', Pv u0 u1 u2 u3 u4 u5 u6 u7 u8 u9 H xs.length σ' H' → D.nx σ' H') :
    ∃ W : Nat → Nat → L2.St → Hp → Prop, (∃ m, W 0 m [u0, u1, u2, u3, u4, u5, u6, u7, u8, u9] H) ∧ ∀ i m σ H, W i m σ H →
      ((Itl K a).stop i H ∧ D.nx σ H) ∨ ((Itl K a).go i H ∧ ∃ N : L2.St → Hp → Prop, (∀ σ' H', N σ' H' → ∃ m', m' < m ∧ W (i + 1) m' σ' H') ∧ ∀ x H', (Itl K a).yld i H x H' → g x σ H' fun σ2 H2 => tb { D with nx := N, ct := N, bk := D.nx } σ2 H2) :=
  for_listS (σ := [u0, u1, u2, u3, u4, u5, u6, u7, u8, u9]) hq (fun _ => Pv u0 u1 u2 u3 u4 u5 u6 u7 u8 u9) hl h0 hs hd
theorem for_range10 {g : TG} {tb : TS} {D : Ends} {H : Hp} {u0 u1 u2 u3 u4 u5 u6 u7 u8 u9 : Option V} {lo : Int} {n : Nat} (Pv : Option V → Option V → Option V → Option V → Option V → Option V → Option V → Option V → Option V → Option V → Hp → Nat → L2.St → Hp → Prop) (h0 : Pv u0 u1 u2 u3 u4 u5 u6 u7 u8 u9 H 0 [u0, u1, u2, u3, u4, u5, u6, u7, u8, u9] H) (hs : ∀ i σ' H', i < n → Pv u0 u1 u2 u3 u4 u5 u6 u7 u8 u9 H i σ' H' → g (.int (lo + i)) σ' H' fun σ2 H2 => tb { D with nx := Pv u0 u1 u2 u3 u4 u5 u6 u7 u8 u9 H (i + 1), ct := Pv u0 u1 u2 u3 u4 u5 u6 u7 u8 u9 H (i + 1), bk := D.nx } σ2 H2) (hd : ∀ σ' H', Pv u0 u1 u2 u3 u4 u5 u6 u7 u8 u9 H n σ' H' → D.nx σ' H') :
    ∃ W : Nat → Nat → L2.St → Hp → Prop, (∃ m, W 0 m [u0, u1, u2, u3, u4, u5, u6, u7, u8, u9] H) ∧ ∀ i m σ H, W i m σ H →
      ((Itr lo n).stop i H ∧ D.nx σ H) ∨ ((Itr lo n).go i H ∧ ∃ N : L2.St → Hp → Prop, (∀ σ' H', N σ' H' → ∃ m', m' < m ∧ W (i + 1) m' σ' H') ∧ ∀ x H', (Itr lo n).yld i H x H' → g x σ H' fun σ2 H2 => tb { D with nx := N, ct := N, bk := D.nx } σ2 H2) :=
  for_rangeS (σ := [u0, u1, u2, u3, u4, u5, u6, u7, u8, u9]) (fun _ => Pv u0 u1 u2 u3 u4 u5 u6 u7 u8 u9) h0 hs hd
abbrev s__law_spelled : Stmt := (top 47)
abbrev N__law_spelled : List Str := [("_law_source_here" : Str), ("_law_number_here" : Str), ("_law_groups_here" : Str), ("_law_texts" : Str), ("_law_one" : Str), ("_law_text" : Str), ("_law_end_of" : Str), ("_law_runs" : Str), ("_law_begin" : Str), ("_law_end" : Str)]
theorem sc__law_spelled : FnScope N__law_spelled [("_law_source_here" : Str), ("_law_number_here" : Str)] (defScope s__law_spelled) := ⟨rfl, rfl, rfl, by decide +kernel, rfl, by decide +kernel, by decide +kernel⟩
def sp__law_spelled (K : Frag) : Sp := fun vs H Q E => ∃ (a : Addr) (n : Int), vs = [.ref a, .int n] ∧ Src H a ∧ 0 ≤ n ∧ n < 340282366920938463463374607431768211456 ∧ ∀ (z : Str) (H' : Hp), Same H H' → z.length ≤ 1000 → 58 ∈ tl z → Good6 z n.toNat → Q (.str z) H'
theorem ok__law_spelled (T : Tx K mg) : FnG P w K mg base 3 "_law_spelled" (sp__law_spelled K) := by
  have F__law_groups := ok__law_groups (P := P) (w := w) (base := base) T
  have F__law_draw := ok__law_draw (P := P) (w := w) (base := base) T
  have F__law_hex := ok__law_hex (P := P) (w := w) (base := base) T
  have F__law_quad := ok__law_quad (P := P) (w := w) (base := base) T
  refine ⟨fnr T.d__law_spelled sc__law_spelled (fun vs H Q E h => by obtain ⟨a, n, rfl, hS, n0, n1, q⟩ := h; rfl) (fun _ _ _ _ _ _ us hl => match us, hl with | [_, _], _ => rfl) (fun cdv A outer s H vs Q E hr h => ?_), T.kp__law_spelled, T.g__law_spelled⟩
  have nd := sc__law_spelled.nd
  have hu := hu_of hr
  obtain ⟨a, n, rfl, hS, n0, n1, q⟩ := h
  refine ⟨_, PSs.nox (pss_cons (ps_set (i := 2) nd rfl (Or.inl rfl) (pe_f F__law_groups (hr.mono (by decide)) passL (pa_cons (pv 1) pa_nil)))
        (pss_cons (ps_set (i := 3) nd rfl (Or.inl rfl) (p_lst pa_nil))
        (pss_cons (ps_for PassesOwn.never rfl (i_list K (pv 2)) (pg_name (i := 4) nd rfl (Or.inl rfl))
        (pss_cons (ps_set (i := 5) nd rfl (Or.inl rfl) (pe_f F__law_hex (hr.mono (by decide)) passL (pa_cons (pv 4) (pa_cons (pe_op op_add pe_int (pe_f F__law_draw (hr.mono (by decide)) passL (pa_cons (pv 0) (pa_cons pe_int pa_nil)))) pa_nil))))
        (pss_one (ps_expr (pe_bm PySem.F.plainAttrs_list PySem.F.slot_list_append PySem.F.type_list_append mt_appendA (pv 3) (pa_cons (pe_ix (x_list K) (p_lst (pa_cons (pv 5) (pa_cons (pe_upper (pv 5)) pa_nil))) (pe_f F__law_draw (hr.mono (by decide)) passL (pa_cons (pv 0) (pa_cons pe_int pa_nil))) (fun _ _ => rfl)) pa_nil))))))
        (pss_cons (ps_set (i := 6) nd rfl (Or.inl rfl) pe_int)
        (pss_cons (ps_if (pt_cmpR op_eq (pe_f F__law_draw (hr.mono (by decide)) passL (pa_cons (pv 0) (pa_cons pe_int pa_nil))) pe_int (nomark _)) (pss_cons (ps_set (i := 6) nd rfl (Or.inl rfl) pe_int)
        (pss_one (ps_set (i := 3) nd rfl (Or.inl rfl) (pe_op (o_catA K) (pe_slice (s_listA K) (pv 3) po_none (po_some pe_int)) (p_lst (pa_cons (pe_f F__law_quad (hr.mono (by decide)) passL (pa_cons (pe_op op_and (pv 1) pe_int) pa_nil)) pa_nil))))))
        pss_nil)
        (pss_cons (ps_set (i := 7) nd rfl (Or.inl rfl) (p_lst pa_nil))
        (pss_cons (ps_for PassesOwn.never rfl (pi_range1 (by rfl) T.f_range (pa_cons (pv 6) pa_nil)) (pg_name (i := 8) nd rfl (Or.inl rfl))
        (pss_one (ps_for PassesOwn.never rfl (pi_range2 (by rfl) T.f_range (pa_cons (pe_op op_add (pv 8) pe_int) (pa_cons (pe_op op_add (pv 6) pe_int) pa_nil))) (pg_name (i := 9) nd rfl (Or.inl rfl))
        (pss_one (ps_if (pt_cmpR (o_eqD K hr.units) (pe_slice (s_listA K) (pv 2) (po_some (pv 8)) (po_some (pv 9))) (pe_op o_repA (p_lst (pa_cons pe_int pa_nil)) (pe_op op_sub (pv 9) (pv 8))) (nomark _)) (pss_one (ps_expr (pe_bm PySem.F.plainAttrs_list PySem.F.slot_list_append PySem.F.type_list_append mt_appendA (pv 7) (pa_cons (p_tup (pa_cons (pv 8) (pa_cons (pv 9) pa_nil))) pa_nil))))
        pss_nil)))))
        (pss_cons (ps_if (PW.pt (pw_or (pt_cmpR (o_eqD K hr.units) (pv 7) (p_lst pa_nil) (nomark _)) (pw_or1 (pt_cmpR op_eq (pe_f F__law_draw (hr.mono (by decide)) passL (pa_cons (pv 0) (pa_cons pe_int pa_nil))) pe_int (nomark _))))) (pss_one (ps_ret (pe_join pe_str (pv 3))))
        pss_nil)
        (pss_cons (ps_asg (pe_ix (x_list K) (pv 7) (pe_f F__law_draw (hr.mono (by decide)) passL (pa_cons (pv 0) (pa_cons (pe_callB (c_lenq K) (by rfl) T.f_len bb_len (pa_cons (pv 7) pa_nil)) pa_nil))) (fun _ _ => rfl)) (pg_tup rfl (pgs_cons (pg_name (i := 8) nd rfl (Or.inl rfl)) (pgs_cons (pg_name (i := 9) nd rfl (Or.inl rfl)) pgs_nil))))
        (pss_one (ps_ret (pe_op op_add_str (pe_op op_add_str (pe_join pe_str (pe_slice (s_listA K) (pv 3) po_none (po_some (pv 8)))) pe_str) (pe_join pe_str (pe_slice (s_listA K) (pv 3) (po_some (pv 9)) po_none)))))))))))))), ?_⟩
  have ea : Builtin.bitAnd n 4294967295 = n % 4294967296 := bitAnd_mask 32 n0
  refine ⟨_, rfl, _, rfl, (by walk_at "pre"), fun p1 H1 sa1 no1 fa1 => ?_⟩
  refine ⟨lz, fun p2 H2 sa2 no2 fa2 => ?_⟩
  refine ⟨_, rfl, _, rfl, ⟨_, (SqL.of (sa2 _ _ fa1))⟩, for_list10 (K := K) (SqL.of (sa2 _ _ fa1)) (fun u0 u1 u2 u3 u4 u5 u6 u7 u8 u9 H0 i σ Hx => ∃ (ts : List Str), ∃ w4 w5 : Option V, σ = [u0, u1, u2, u3, w4, w5, u6, u7, u8, u9] ∧ Same H1 Hx ∧ Sml H0 Hx ∧ Hx p2 = some (.lst (ts.map V.str)) ∧ Shards ((gN n).take i) ts) (fun i σ Hx hh => by obtain ⟨_, _, _, _, sx, _, _, _⟩ := hh; exact SqL.of (sx _ _ fa1)) ⟨[], _, _, rfl, sa2, (Sml.refl _), fa2, trivial⟩ ?_ ?_⟩
  · rintro i x1 σ H4 hi1 ⟨ts, w4, w5, rfl, sa3, ml1, fa3, sh⟩
    obtain ⟨g, hg, rfl⟩ := map_at hi1
    have hgb := gN_b n g (List.mem_of_getElem? hg)
    have hi8 : ts.length ≤ 8 := by have := sh.len; rw [List.length_take, gN_len] at this; omega
    refine ⟨_, rfl, _, rfl, _, _, rfl, (((hS.same sa1).same sa2).sml ml1), (by walk_at "pre"), (by walk_at "pre"), fun r1 hy1 hy2 => ?_⟩
    refine ⟨_, _, rfl, rfl, _, _, rfl, (by walk_at "pre"), (by walk_at "pre"), (by walk_at "pre"), (by walk_at "pre"), ?_⟩
    have sd : Shard g (hexZ (1 + r1).toNat ((g : Int)).toNat) := shard_hexZ (by omega) hgb
    have sl := sd.len
    refine ⟨_, rfl, Or.inl ⟨rfl, _, (SqL.of fa3)⟩, _, rfl, _, rfl, ⟨_, rfl⟩, _, rfl, rfl, (by omega), lz, fun p3 H5 sa4 no3 fa4 => ?_⟩
    refine ⟨_, rfl, _, _, rfl, ((((hS.same sa1).same sa2).sml ml1).same sa4), (by walk_at "pre"), (by walk_at "pre"), fun r2 hy3 hy4 => ?_⟩
    obtain ⟨v1, e1, ⟨t, rfl, st⟩⟩ := pickQ (K := K) (SqL.of fa4) (P := (fun v => ∃ t, v = .str t ∧ Shard g t)) (by omega) (by walk_at "lt") (fa_cons ⟨_, rfl, sd⟩ (fa_cons ⟨_, rfl, sd.upper⟩ fa_nil))
    refine ⟨_, _, _, _, rfl, rfl, (SqL.of fa4), e1, ?_⟩
    refine ⟨_, _, _, rfl, rfl, (sa4 _ _ fa3), (by walk_at "len"), fun H6 bu1 ml2 fa5 => ?_⟩
    have sa5 : Same H1 H6 := but_same (sa3.trans sa4) bu1 no2
    exact ⟨ts ++ [t], _, _, rfl, sa5, (ml1.trans ((Same.sml sa4).trans ml2)), by rw [List.map_append]; exact fa5, by rw [take_succ' hg]; exact sh.snoc st⟩
  · rintro σ H7 ⟨ts, w4, w5, rfl, sa6, ml3, fa6, sh⟩
    have sh8 : Shards (gN n) ts := by rw [List.length_map, List.take_length] at sh; exact sh
    have hl8 : ts.length = 8 := sh8.len
    refine ⟨_, rfl, _, _, rfl, (((hS.same sa1).same sa2).sml ml3), (by walk_at "pre"), (by walk_at "pre"), fun r3 hy5 hy6 => ?_⟩
    refine ⟨rfl, _, rfl, ?_⟩
    refine ite2 (fun hq => ?_) (fun hq => ?_)
    · refine ⟨_, rfl, _, rfl, _, _, rfl, (SqL.of fa6), fun p4 H8 sa7 no4 fa7 => ?_⟩
      refine ⟨_, rfl, _, _, rfl, rfl, _, rfl, (by walk_at "pre"), (by walk_at "pre"), fun H9 sa8 => ?_⟩
      refine ⟨lz, fun p5 H10 sa9 no5 fa8 => ?_⟩
      refine ⟨_, _, _, _, rfl, rfl, (SqL.of ((sa8.trans sa9) _ _ fa7)), (SqL.of fa8), (sizeL' (by have := cutV_length (ts.map V.str) none (some 6); rw [List.length_map] at this; simp only [List.length_cons, List.length_nil]; omega)), fun p6 H11 sa10 no6 fa9 => ?_⟩
      have k0 : cutV (ts.map V.str) none (some 6) ++ [V.str (quadS (Builtin.bitAnd n 4294967295))] = (ts.take 6 ++ [quadS (n % 4294967296)]).map V.str := by
        rw [ea, List.map_append, List.map_take]
        exact congrArg (· ++ _) (cut_head (e := 6) (by rw [List.length_map]; omega))
      have ft := lst_eq fa9 k0
      have tx := texts_quad n0 sh8
      generalize ts.take 6 ++ [quadS (n % 4294967296)] = tt at ft tx
      refine ⟨lz, fun p7 H12 sa11 no7 fa10 => ?_⟩
      refine ⟨_, rfl, _, rfl, (by omega), (by omega), for_range10 (n := 6) (fun u0 u1 u2 u3 u4 u5 u6 u7 u8 u9 H0 i σ Hx => ∃ (vs : List V), ∃ w8 w9 : Option V, σ = [u0, u1, u2, u3, u4, u5, u6, u7, w8, w9] ∧ Same H11 Hx ∧ Sml H0 Hx ∧ Hx p7 = some (.lst (vs)) ∧ (∀ v ∈ vs, PairV (Run n 6) Hx v) ∧ vs.length ≤ 10 * i) ⟨[], _, _, rfl, sa11, (Sml.refl _), fa10, fun _ h => (by cases h), by simp⟩ ?_ ?_⟩
      · rintro b σ H14 hi2 ⟨vs, w8, w9, rfl, sa12, ml4, fa11, pv, pl⟩
        refine ⟨_, rfl, _, _, rfl, rfl, _, rfl, _, _, rfl, rfl, _, _, rfl, (by omega), for_range10 (n := _) (fun u0 u1 u2 u3 u4 u5 u6 u7 u8 u9 H0 i σ Hx => ∃ (ws : List V), ∃ w9 : Option V, σ = [u0, u1, u2, u3, u4, u5, u6, u7, u8, w9] ∧ Same H11 Hx ∧ Sml H0 Hx ∧ Hx p7 = some (.lst (ws)) ∧ (∀ v ∈ ws, PairV (Run n 6) Hx v) ∧ ws.length ≤ 10 * b + i) ⟨vs, _, rfl, sa12, (Sml.refl _), fa11, pv, pl⟩ ?_ ?_⟩
        · rintro j σ H16 hi3 ⟨ws, w9, rfl, sa13, ml5, fa12, pw, pk⟩
          refine ⟨_, rfl, _, rfl, _, rfl, _, rfl, _, rfl, _, _, rfl, (SqL.of (((sa6.trans (sa7.trans (sa8.trans (sa9.trans sa10)))).trans sa13) _ _ fa1)), fun p8 H17 sa14 no8 fa13 => ?_⟩
          refine ⟨lz, fun p9 H18 sa15 no9 fa14 => ?_⟩
          refine ⟨_, rfl, _, rfl, _, _, rfl, rfl, _, _, _, rfl, rfl, fa14, (by omega), (by omega), (sizeL' (by simp only [List.length_cons, List.length_nil]; omega)), fun p10 H19 sa16 no10 fa15 => ?_⟩
          have k1 : cutV ((gN n).map natV) (some (0 + (b : Int))) (some (0 + (b : Int) + 1 + (j : Int))) = (((gN n).drop b).take (1 + j)).map natV := by
            rw [show (0 : Int) + (b : Int) + 1 + (j : Int) = ((b + 1 + j : Nat) : Int) by omega, show (0 : Int) + (b : Int) = ((b : Nat) : Int) by omega, cut_nat (by rw [List.length_map, gN_len]; omega) (by rw [List.length_map, gN_len]; omega), List.map_take, List.map_drop, show b + 1 + j - b = 1 + j by omega]
          have k2 : (List.replicate (0 + (b : Int) + 1 + (j : Int) - (0 + (b : Int))).toNat [V.int 0]).flatten = (List.replicate (1 + j) 0).map natV := by
            rw [show ((0 : Int) + (b : Int) + 1 + (j : Int) - (0 + (b : Int))).toNat = 1 + j by omega, List.map_replicate]
            exact rep_one _ _
          have g1 := lst_eq ((sa15.trans sa16) _ _ fa13) k1
          have g2 := lst_eq fa15 k2
          refine nats_cmp (gs := ((gN n).drop b).take (1 + j)) (hs := List.replicate (1 + j) 0) (SqL.of g1) (SqL.of g2) ?_
          refine ⟨_, rfl, ?_⟩
          refine ite2 (fun hz => ?_) (fun hz => ?_)
          · refine ⟨_, rfl, Or.inl ⟨rfl, _, (SqL.of ((sa14.trans (sa15.trans sa16)) _ _ fa12))⟩, _, rfl, _, rfl, lz, fun p11 H20 sa17 no11 fa16 => ?_⟩
            refine ⟨_, _, _, rfl, rfl, ((sa14.trans (sa15.trans (sa16.trans sa17))) _ _ fa12), (by walk_at "len"), fun H21 bu2 ml6 fa17 => ?_⟩
            have sa18 : Same H11 H21 := but_same (sa13.trans (sa14.trans (sa15.trans (sa16.trans sa17)))) bu2 no7
            exact ⟨ws ++ [.ref p11], _, rfl, sa18, (ml5.trans ((Same.sml sa14).trans ((Same.sml sa15).trans ((Same.sml sa16).trans ((Same.sml sa17).trans ml6))))), fa17, mem_snoc (fun v hv => (pw v hv).sml ((Same.sml sa14).trans ((Same.sml sa15).trans ((Same.sml sa16).trans ((Same.sml sa17).trans ml6))))) ⟨_, _, _, b, b + 1 + j, rfl, (ml6 _ _ fa16 (by intro _ z; cases z)), by omega, by omega, by omega, by omega, by rw [show b + 1 + j - b = 1 + j by omega]; exact of_decide_eq_true hz⟩, (by rw [List.length_append]; simp only [List.length_cons, List.length_nil]; omega)⟩
          · exact ⟨ws, _, rfl, (sa13.trans (sa14.trans (sa15.trans sa16))), (ml5.trans ((Same.sml sa14).trans ((Same.sml sa15).trans (Same.sml sa16)))), ((sa14.trans (sa15.trans sa16)) _ _ fa12), fun v hv => (pw v hv).sml ((Same.sml sa14).trans ((Same.sml sa15).trans (Same.sml sa16))), by omega⟩
        · rintro σ H22 ⟨ws, w9, rfl, sa19, ml7, fa18, pw, pk⟩
          exact ⟨ws, _, _, rfl, sa19, (ml4.trans ml7), fa18, pw, by omega⟩
      · rintro σ H23 ⟨vs, w8, w9, rfl, sa20, ml8, fa19, pv, pl⟩
        refine ⟨_, rfl, lz, fun p12 H24 sa21 no12 fa20 => ?_⟩
        refine pairs_nil (SqL.of (sa21 _ _ fa19)) (SqL.of fa20) (fun v hv => (pv v hv).sml (Same.sml sa21)) ?_
        refine ⟨_, rfl, ?_⟩
        refine ite2 (fun he => ?_) (fun he => ?_)
        · refine itT rfl ?_
          refine ⟨⟨_, rfl⟩, _, rfl, _, _, tt, rfl, rfl, Or.inl (SqL.of ((sa20.trans sa21) _ _ ft)), (sum16' tx.short tx.le8.1), ?_⟩
          exact q _ _ ((sa1.trans (sa6.trans (sa7.trans (sa8.trans (sa9.trans sa10))))).trans (sa20.trans sa21)) (by have := join_len16 tx.short tx.le8.1; omega) tx.colon (tx.good n0 n1)
        · refine ⟨_, rfl, _, _, rfl, ((((((((((hS.same sa1).same sa2).sml ml3).same sa7).same sa8).same sa9).same sa10).same sa11).sml ml8).same sa21), (by walk_at "pre"), (by walk_at "pre"), fun r4 hy7 hy8 => ?_⟩
          refine ⟨rfl, _, rfl, ?_⟩
          refine ite2 (fun h0 => ?_) (fun h0 => ?_)
          · refine ⟨⟨_, rfl⟩, _, rfl, _, _, tt, rfl, rfl, Or.inl (SqL.of ((sa20.trans sa21) _ _ ft)), (sum16' tx.short tx.le8.1), ?_⟩
            exact q _ _ ((sa1.trans (sa6.trans (sa7.trans (sa8.trans (sa9.trans sa10))))).trans (sa20.trans sa21)) (by have := join_len16 tx.short tx.le8.1; omega) tx.colon (tx.good n0 n1)
          · have hvs : 0 < vs.length := by
              cases vs with
              | nil => exact absurd rfl he
              | cons _ _ => simp
            refine ⟨_, rfl, _, rfl, _, rfl, _, _, rfl, Or.inl (SqL.of (sa21 _ _ fa19)), _, _, rfl, ((((((((((hS.same sa1).same sa2).sml ml3).same sa7).same sa8).same sa9).same sa10).same sa11).sml ml8).same sa21), (by walk_at "pre"), (by walk_at "pre"), fun r5 hy9 hy10 => ?_⟩
            obtain ⟨v2, e2, ⟨r, x, y, b, e, rfl, ft2, rfl, rfl, rb, re, rz⟩⟩ := pickQ (K := K) (SqL.of (sa21 _ _ fa19)) (P := (fun v => PairV (Run n 6) _ v)) (by omega) (by walk_at "lt") ((fun v hv => (pv v hv).sml (Same.sml sa21)))
            refine ⟨_, _, _, _, rfl, rfl, (SqL.of (sa21 _ _ fa19)), e2, ?_⟩
            refine ⟨_, _, rfl, (SqT.of ft2), rfl, _, _, rfl, _, _, rfl, rfl, ⟨_, rfl⟩, _, rfl, _, rfl, _, rfl, _, _, rfl, (SqL.of ((sa20.trans sa21) _ _ ft)), fun p13 H25 sa22 no13 fa21 => ?_⟩
            have lt8 := tx.le8
            have sh1 : ∀ t ∈ tt.take b, t.length ≤ 16 := fun t ht => tx.short t (List.mem_of_mem_take ht)
            have sh2 : ∀ t ∈ tt.drop e, t.length ≤ 16 := fun t ht => tx.short t (List.mem_of_mem_drop ht)
            have l1 : (tt.take b).length ≤ 8 := by rw [List.length_take]; omega
            have l2 : (tt.drop e).length ≤ 8 := by rw [List.length_drop]; omega
            have j1 := join_len16 sh1 l1
            have j2 := join_len16 sh2 l2
            have c2 : ("::" : Str).length = 2 := by decide +kernel
            refine ⟨_, _, tt.take b, rfl, rfl, Or.inl (SqL.of (by rw [List.map_take, ← cut_head (e := b) (by rw [List.length_map]; omega)]; exact fa21)), (sum16' sh1 l1), _, _, rfl, rfl, (sizeL' (by (try simp only [Str_len_app]); omega)), ⟨_, rfl⟩, _, rfl, _, rfl, _, rfl, _, _, rfl, (SqL.of ((sa20.trans (sa21.trans sa22)) _ _ ft)), fun p14 H26 sa23 no14 fa22 => ?_⟩
            refine ⟨_, _, tt.drop e, rfl, rfl, Or.inl (SqL.of (by rw [List.map_drop, ← cut_tail (b := e) (by rw [List.length_map]; omega)]; exact fa22)), (sum16' sh2 l2), _, _, rfl, rfl, (sizeL' (by (try simp only [Str_len_app]); omega)), ?_⟩
            exact q _ _ ((sa1.trans (sa6.trans (sa7.trans (sa8.trans (sa9.trans sa10))))).trans (sa20.trans (sa21.trans (sa22.trans sa23)))) (by simp only [Str_len_app]; omega) (colon2 _ _) (tx.gap n0 n1 rb re rz)
    · have ft := fa6
      have tx := texts_whole sh8
      generalize ts = tt at ft tx
      refine ⟨lz, fun p15 H27 sa24 no15 fa23 => ?_⟩
      refine ⟨_, rfl, _, rfl, (by omega), (by omega), for_range10 (n := 8) (fun u0 u1 u2 u3 u4 u5 u6 u7 u8 u9 H0 i σ Hx => ∃ (vs : List V), ∃ w8 w9 : Option V, σ = [u0, u1, u2, u3, u4, u5, u6, u7, w8, w9] ∧ Same H7 Hx ∧ Sml H0 Hx ∧ Hx p15 = some (.lst (vs)) ∧ (∀ v ∈ vs, PairV (Run n 8) Hx v) ∧ vs.length ≤ 10 * i) ⟨[], _, _, rfl, sa24, (Sml.refl _), fa23, fun _ h => (by cases h), by simp⟩ ?_ ?_⟩
      · rintro b σ H29 hi4 ⟨vs, w8, w9, rfl, sa25, ml9, fa24, pv, pl⟩
        refine ⟨_, rfl, _, _, rfl, rfl, _, rfl, _, _, rfl, rfl, _, _, rfl, (by omega), for_range10 (n := _) (fun u0 u1 u2 u3 u4 u5 u6 u7 u8 u9 H0 i σ Hx => ∃ (ws : List V), ∃ w9 : Option V, σ = [u0, u1, u2, u3, u4, u5, u6, u7, u8, w9] ∧ Same H7 Hx ∧ Sml H0 Hx ∧ Hx p15 = some (.lst (ws)) ∧ (∀ v ∈ ws, PairV (Run n 8) Hx v) ∧ ws.length ≤ 10 * b + i) ⟨vs, _, rfl, sa25, (Sml.refl _), fa24, pv, pl⟩ ?_ ?_⟩
        · rintro j σ H31 hi5 ⟨ws, w9, rfl, sa26, ml10, fa25, pw, pk⟩
          refine ⟨_, rfl, _, rfl, _, rfl, _, rfl, _, rfl, _, _, rfl, (SqL.of ((sa6.trans sa26) _ _ fa1)), fun p16 H32 sa27 no16 fa26 => ?_⟩
          refine ⟨lz, fun p17 H33 sa28 no17 fa27 => ?_⟩
          refine ⟨_, rfl, _, rfl, _, _, rfl, rfl, _, _, _, rfl, rfl, fa27, (by omega), (by omega), (sizeL' (by simp only [List.length_cons, List.length_nil]; omega)), fun p18 H34 sa29 no18 fa28 => ?_⟩
          have k1 : cutV ((gN n).map natV) (some (0 + (b : Int))) (some (0 + (b : Int) + 1 + (j : Int))) = (((gN n).drop b).take (1 + j)).map natV := by
            rw [show (0 : Int) + (b : Int) + 1 + (j : Int) = ((b + 1 + j : Nat) : Int) by omega, show (0 : Int) + (b : Int) = ((b : Nat) : Int) by omega, cut_nat (by rw [List.length_map, gN_len]; omega) (by rw [List.length_map, gN_len]; omega), List.map_take, List.map_drop, show b + 1 + j - b = 1 + j by omega]
          have k2 : (List.replicate (0 + (b : Int) + 1 + (j : Int) - (0 + (b : Int))).toNat [V.int 0]).flatten = (List.replicate (1 + j) 0).map natV := by
            rw [show ((0 : Int) + (b : Int) + 1 + (j : Int) - (0 + (b : Int))).toNat = 1 + j by omega, List.map_replicate]
            exact rep_one _ _
          have g1 := lst_eq ((sa28.trans sa29) _ _ fa26) k1
          have g2 := lst_eq fa28 k2
          refine nats_cmp (gs := ((gN n).drop b).take (1 + j)) (hs := List.replicate (1 + j) 0) (SqL.of g1) (SqL.of g2) ?_
          refine ⟨_, rfl, ?_⟩
          refine ite2 (fun hz => ?_) (fun hz => ?_)
          · refine ⟨_, rfl, Or.inl ⟨rfl, _, (SqL.of ((sa27.trans (sa28.trans sa29)) _ _ fa25))⟩, _, rfl, _, rfl, lz, fun p19 H35 sa30 no19 fa29 => ?_⟩
            refine ⟨_, _, _, rfl, rfl, ((sa27.trans (sa28.trans (sa29.trans sa30))) _ _ fa25), (by walk_at "len"), fun H36 bu3 ml11 fa30 => ?_⟩
            have sa31 : Same H7 H36 := but_same (sa26.trans (sa27.trans (sa28.trans (sa29.trans sa30)))) bu3 no15
            exact ⟨ws ++ [.ref p19], _, rfl, sa31, (ml10.trans ((Same.sml sa27).trans ((Same.sml sa28).trans ((Same.sml sa29).trans ((Same.sml sa30).trans ml11))))), fa30, mem_snoc (fun v hv => (pw v hv).sml ((Same.sml sa27).trans ((Same.sml sa28).trans ((Same.sml sa29).trans ((Same.sml sa30).trans ml11))))) ⟨_, _, _, b, b + 1 + j, rfl, (ml11 _ _ fa29 (by intro _ z; cases z)), by omega, by omega, by omega, by omega, by rw [show b + 1 + j - b = 1 + j by omega]; exact of_decide_eq_true hz⟩, (by rw [List.length_append]; simp only [List.length_cons, List.length_nil]; omega)⟩
          · exact ⟨ws, _, rfl, (sa26.trans (sa27.trans (sa28.trans sa29))), (ml10.trans ((Same.sml sa27).trans ((Same.sml sa28).trans (Same.sml sa29)))), ((sa27.trans (sa28.trans sa29)) _ _ fa25), fun v hv => (pw v hv).sml ((Same.sml sa27).trans ((Same.sml sa28).trans (Same.sml sa29))), by omega⟩
        · rintro σ H37 ⟨ws, w9, rfl, sa32, ml12, fa31, pw, pk⟩
          exact ⟨ws, _, _, rfl, sa32, (ml9.trans ml12), fa31, pw, by omega⟩
      · rintro σ H38 ⟨vs, w8, w9, rfl, sa33, ml13, fa32, pv, pl⟩
        refine ⟨_, rfl, lz, fun p20 H39 sa34 no20 fa33 => ?_⟩
        refine pairs_nil (SqL.of (sa34 _ _ fa32)) (SqL.of fa33) (fun v hv => (pv v hv).sml (Same.sml sa34)) ?_
        refine ⟨_, rfl, ?_⟩
        refine ite2 (fun he => ?_) (fun he => ?_)
        · refine itT rfl ?_
          refine ⟨⟨_, rfl⟩, _, rfl, _, _, tt, rfl, rfl, Or.inl (SqL.of ((sa33.trans sa34) _ _ ft)), (sum16' tx.short tx.le8.1), ?_⟩
          exact q _ _ ((sa1.trans sa6).trans (sa33.trans sa34)) (by have := join_len16 tx.short tx.le8.1; omega) tx.colon (tx.good n0 n1)
        · refine ⟨_, rfl, _, _, rfl, ((((((hS.same sa1).same sa2).sml ml3).same sa24).sml ml13).same sa34), (by walk_at "pre"), (by walk_at "pre"), fun r6 hy11 hy12 => ?_⟩
          refine ⟨rfl, _, rfl, ?_⟩
          refine ite2 (fun h0 => ?_) (fun h0 => ?_)
          · refine ⟨⟨_, rfl⟩, _, rfl, _, _, tt, rfl, rfl, Or.inl (SqL.of ((sa33.trans sa34) _ _ ft)), (sum16' tx.short tx.le8.1), ?_⟩
            exact q _ _ ((sa1.trans sa6).trans (sa33.trans sa34)) (by have := join_len16 tx.short tx.le8.1; omega) tx.colon (tx.good n0 n1)
          · have hvs : 0 < vs.length := by
              cases vs with
              | nil => exact absurd rfl he
              | cons _ _ => simp
            refine ⟨_, rfl, _, rfl, _, rfl, _, _, rfl, Or.inl (SqL.of (sa34 _ _ fa32)), _, _, rfl, ((((((hS.same sa1).same sa2).sml ml3).same sa24).sml ml13).same sa34), (by walk_at "pre"), (by walk_at "pre"), fun r7 hy13 hy14 => ?_⟩
            obtain ⟨v3, e3, ⟨r, x, y, b, e, rfl, ft2, rfl, rfl, rb, re, rz⟩⟩ := pickQ (K := K) (SqL.of (sa34 _ _ fa32)) (P := (fun v => PairV (Run n 8) _ v)) (by omega) (by walk_at "lt") ((fun v hv => (pv v hv).sml (Same.sml sa34)))
            refine ⟨_, _, _, _, rfl, rfl, (SqL.of (sa34 _ _ fa32)), e3, ?_⟩
            refine ⟨_, _, rfl, (SqT.of ft2), rfl, _, _, rfl, _, _, rfl, rfl, ⟨_, rfl⟩, _, rfl, _, rfl, _, rfl, _, _, rfl, (SqL.of ((sa33.trans sa34) _ _ ft)), fun p21 H40 sa35 no21 fa34 => ?_⟩
            have lt8 := tx.le8
            have sh1 : ∀ t ∈ tt.take b, t.length ≤ 16 := fun t ht => tx.short t (List.mem_of_mem_take ht)
            have sh2 : ∀ t ∈ tt.drop e, t.length ≤ 16 := fun t ht => tx.short t (List.mem_of_mem_drop ht)
            have l1 : (tt.take b).length ≤ 8 := by rw [List.length_take]; omega
            have l2 : (tt.drop e).length ≤ 8 := by rw [List.length_drop]; omega
            have j1 := join_len16 sh1 l1
            have j2 := join_len16 sh2 l2
            have c2 : ("::" : Str).length = 2 := by decide +kernel
            refine ⟨_, _, tt.take b, rfl, rfl, Or.inl (SqL.of (by rw [List.map_take, ← cut_head (e := b) (by rw [List.length_map]; omega)]; exact fa34)), (sum16' sh1 l1), _, _, rfl, rfl, (sizeL' (by (try simp only [Str_len_app]); omega)), ⟨_, rfl⟩, _, rfl, _, rfl, _, rfl, _, _, rfl, (SqL.of ((sa33.trans (sa34.trans sa35)) _ _ ft)), fun p22 H41 sa36 no22 fa35 => ?_⟩
            refine ⟨_, _, tt.drop e, rfl, rfl, Or.inl (SqL.of (by rw [List.map_drop, ← cut_tail (b := e) (by rw [List.length_map]; omega)]; exact fa35)), (sum16' sh2 l2), _, _, rfl, rfl, (sizeL' (by (try simp only [Str_len_app]); omega)), ?_⟩
            exact q _ _ ((sa1.trans sa6).trans (sa33.trans (sa34.trans (sa35.trans sa36)))) (by simp only [Str_len_app]; omega) (colon2 _ _) (tx.gap n0 n1 rb re rz)
/-- at p stands the version 4 address of n -/
structure IsA4 (K : Frag) (H : Hp) (p : Addr) (n : Int) : Prop where
  ge : 0 ≤ n
  lt : n < 4294967296
  ob : ∃ dx, H p = some (.ins (He.ga K "Address4") dx [("number", .int n)])
theorem IsA4.same {K : Frag} {H H' : Hp} {p : Addr} {n : Int} (h : IsA4 K H p n) (e : Same H H') : IsA4 K H' p n := by
  obtain ⟨a, b, dx, c⟩ := h
  exact ⟨a, b, dx, e _ _ c⟩
theorem IsA4.sml {K : Frag} {H H' : Hp} {p : Addr} {n : Int} (h : IsA4 K H p n) (e : Sml H H') : IsA4 K H' p n := by
  obtain ⟨a, b, dx, c⟩ := h
  exact ⟨a, b, dx, e _ _ c (fun _ z => by cases z)⟩
/-- a text of a version 4 address -/
structure Good4 (z : Str) (n : Int) : Prop where
  ok : quadFault (tl z) = none
  val : n = quadVal (dots (tl z))
  lt : n < 4294967296
abbrev s_Address4___init___int : Stmt := (inClass (top 37) 2)
abbrev N_Address4___init___int : List Str := [("self" : Str), ("value" : Str)]
theorem sc_Address4___init___int : FnScope N_Address4___init___int [("self" : Str), ("value" : Str)] (defScope s_Address4___init___int) := ⟨rfl, rfl, rfl, by decide +kernel, rfl, by decide +kernel, by decide +kernel⟩
def sp_Address4___init___int (K : Frag) : Sp := fun vs H Q E => ∃ (p dx : Addr) (i : Int), vs = [.ref p, .int i] ∧ H p = some (.ins (He.ga K "Address4") dx []) ∧ 0 ≤ i ∧ i < 4294967296 ∧ Q .non (upd H p (.ins (He.ga K "Address4") dx [("number", .int i)]))
theorem ok_Address4___init___int (T : Tx K mg) : Wc P w K mg base 4 (He.ma K (He.ga K "Address4") "__init__") (sp_Address4___init___int K) := by
  have F_number_of_int := ok_number_of_int (P := P) (w := w) (base := base) T
  refine fnr T.dm_Address4____init__ sc_Address4___init___int (fun vs H Q E h => by obtain ⟨p, dx, i, rfl, hp, h0, h1, q⟩ := h; rfl) (fun _ _ _ _ _ _ us hl => match us, hl with | [_, _], _ => rfl) (fun cdv A outer s H vs Q E hr h => ?_)
  have nd := sc_Address4___init___int.nd
  have hu := hu_of hr
  obtain ⟨p, dx, i, rfl, hp, h0, h1, q⟩ := h
  refine ⟨_, PSs.nox (pss_one (ps_fld (pv 0) (pe_ifExp (pt_val (pe_callB (c_isi K) (by rfl) T.f_isinstance bb_isinstance (pa_cons (pv 1) (pa_cons (pe_glob (v := .ref (He.ga K "Address4")) rfl T.g_Address4 rfl) pa_nil)))) pe_never (pe_f F_number_of_int (hr.mono (by decide)) passL (pa_cons (pv 1) (pa_cons (pe_gi T.i_WIDTH4) pa_nil)))) rfl)), ?_⟩
  have x32 := e32
  walk_at "rd"
  refine ⟨_, _, _, _, false, rfl, .own _, .base (.int i), T.ki_int_Address4, ?_⟩
  walk_at "rd"
  refine ⟨_, _, rfl, .inl rfl, h0, by omega, ?_⟩
  walk_at "rd"
  exact ⟨p, _, dx, _, rfl, hp, T.c_Address4, T.na_Address4__number, lz, q⟩
abbrev s_Address4___init___str : Stmt := (inClass (top 37) 2)
abbrev N_Address4___init___str : List Str := [("self" : Str), ("value" : Str)]
theorem sc_Address4___init___str : FnScope N_Address4___init___str [("self" : Str), ("value" : Str)] (defScope s_Address4___init___str) := ⟨rfl, rfl, rfl, by decide +kernel, rfl, by decide +kernel, by decide +kernel⟩
def sp_Address4___init___str (K : Frag) : Sp := fun vs H Q E => ∃ (p dx : Addr) (z : Str), vs = [.ref p, .str z] ∧ H p = some (.ins (He.ga K "Address4") dx []) ∧ z.length ≤ 100000 ∧ quadFault (tl z) = none ∧ ∀ H', Same H H' → Q .non (upd H' p (.ins (He.ga K "Address4") dx [("number", .int (quadVal (dots (tl z))))]))
theorem ok_Address4___init___str (T : Tx K mg) : Wc P w K mg base 5 (He.ma K (He.ga K "Address4") "__init__") (sp_Address4___init___str K) := by
  have F_number_of_str4 := ok_number_of_str4 (P := P) (w := w) (base := base) T
  refine fnr T.dm_Address4____init__ sc_Address4___init___str (fun vs H Q E h => by obtain ⟨p, dx, z, rfl, hp, hz, hq, q⟩ := h; rfl) (fun _ _ _ _ _ _ us hl => match us, hl with | [_, _], _ => rfl) (fun cdv A outer s H vs Q E hr h => ?_)
  have nd := sc_Address4___init___str.nd
  have hu := hu_of hr
  obtain ⟨p, dx, z, rfl, hp, hz, hq, q⟩ := h
  refine ⟨_, PSs.nox (pss_one (ps_fld (pv 0) (pe_ifExp (pt_val (pe_callB (c_isi K) (by rfl) T.f_isinstance bb_isinstance (pa_cons (pv 1) (pa_cons (pe_glob (v := .ref (He.ga K "Address4")) rfl T.g_Address4 rfl) pa_nil)))) pe_never (pe_f F_number_of_str4 (hr.mono (by decide)) passL (pa_cons (pv 1) (pa_cons (pe_gi T.i_WIDTH4) pa_nil)))) rfl)), ?_⟩
  walk_at "rd"
  refine ⟨_, _, _, _, false, rfl, .own _, .base (.str z), T.ki_str_Address4, ?_⟩
  walk_at "rd"
  refine ⟨hz, hq, fun H1 s1 => ?_⟩
  walk_at "rd"
  exact ⟨p, _, dx, _, rfl, s1 _ _ hp, T.c_Address4, T.na_Address4__number, lz, q H1 s1⟩
abbrev s_Address4___init___Address4 : Stmt := (inClass (top 37) 2)
abbrev N_Address4___init___Address4 : List Str := [("self" : Str), ("value" : Str)]
theorem sc_Address4___init___Address4 : FnScope N_Address4___init___Address4 [("self" : Str), ("value" : Str)] (defScope s_Address4___init___Address4) := ⟨rfl, rfl, rfl, by decide +kernel, rfl, by decide +kernel, by decide +kernel⟩
def sp_Address4___init___Address4 (K : Frag) : Sp := fun vs H Q E => ∃ (p dx b : Addr) (n : Int), vs = [.ref p, .ref b] ∧ H p = some (.ins (He.ga K "Address4") dx []) ∧ IsA4 K H b n ∧ Q .non (upd H p (.ins (He.ga K "Address4") dx [("number", .int n)]))
theorem ok_Address4___init___Address4 (T : Tx K mg) : Wc P w K mg base 1 (He.ma K (He.ga K "Address4") "__init__") (sp_Address4___init___Address4 K) := by
  refine fnr T.dm_Address4____init__ sc_Address4___init___Address4 (fun vs H Q E h => by obtain ⟨p, dx, b, n, rfl, hp, ⟨n0, n1, db, hb⟩, q⟩ := h; rfl) (fun _ _ _ _ _ _ us hl => match us, hl with | [_, _], _ => rfl) (fun cdv A outer s H vs Q E hr h => ?_)
  have nd := sc_Address4___init___Address4.nd
  have hu := hu_of hr
  obtain ⟨p, dx, b, n, rfl, hp, ⟨n0, n1, db, hb⟩, q⟩ := h
  refine ⟨_, PSs.nox (pss_one (ps_fld (pv 0) (pe_ifExp (pt_val (pe_callB (c_isi K) (by rfl) T.f_isinstance bb_isinstance (pa_cons (pv 1) (pa_cons (pe_glob (v := .ref (He.ga K "Address4")) rfl T.g_Address4 rfl) pa_nil)))) (p_fld K (pv 1)) pe_never) rfl)), ?_⟩
  walk_at "rd"
  refine ⟨_, _, _, _, true, rfl, .own _, T.ty_Address4.tx hb, T.ki_Address4_Address4, ?_⟩
  walk_at "rd"
  refine ⟨_, _, _, _, _, rfl, hb, T.c_Address4, T.na_Address4__number, rfl, ?_⟩
  walk_at "rd"
  exact ⟨p, _, dx, _, rfl, hp, T.c_Address4, T.na_Address4__number, lz, q⟩
def sp_Address4_int (K : Frag) : Sp := fun vs H Q E => ∃ i : Int, vs = [.int i] ∧ 0 ≤ i ∧ i < 4294967296 ∧ ∀ (a : Addr) (H' : Hp), Same H H' → H a = none → IsA4 K H' a i → Q (.ref a) H'
theorem ok_Address4_int (T : Tx K mg) : FnC P w K mg base 4 "Address4" (sp_Address4_int K) := by
  refine ⟨⟨_, _, T.mk_Address4, ok_Address4___init___int (P := P) (w := w) (base := base) T, fun vs H Q E h a dx na ndx nda => ?_⟩, T.g_Address4⟩
  obtain ⟨i, rfl, h0, h1, q⟩ := h
  exact ⟨a, dx, i, rfl, upd_same, h0, h1, rfl, q a _ (same_made na ndx (Same.refl _)) na ⟨h0, h1, dx, upd_same⟩⟩
def sp_Address4_str (K : Frag) : Sp := fun vs H Q E => ∃ (z : Str) (n : Int), vs = [.str z] ∧ z.length ≤ 100000 ∧ Good4 z n ∧ ∀ (a : Addr) (H' : Hp), Same H H' → H a = none → IsA4 K H' a n → Q (.ref a) H'
theorem ok_Address4_str (T : Tx K mg) : FnC P w K mg base 5 "Address4" (sp_Address4_str K) := by
  refine ⟨⟨_, _, T.mk_Address4, ok_Address4___init___str (P := P) (w := w) (base := base) T, fun vs H Q E h a dx na ndx nda => ?_⟩, T.g_Address4⟩
  obtain ⟨z, n, rfl, hz, ⟨hq, rfl, hn⟩, q⟩ := h
  exact ⟨a, dx, z, rfl, upd_same, hz, hq, fun H1 s1 => ⟨rfl, q a _ (same_made na ndx s1) na ⟨by omega, hn, dx, upd_same⟩⟩⟩
def sp_Address4_Address4 (K : Frag) : Sp := fun vs H Q E => ∃ (b : Addr) (n : Int), vs = [.ref b] ∧ IsA4 K H b n ∧ ∀ (a : Addr) (H' : Hp), Same H H' → H a = none → IsA4 K H' a n → Q (.ref a) H'
theorem ok_Address4_Address4 (T : Tx K mg) : FnC P w K mg base 1 "Address4" (sp_Address4_Address4 K) := by
  refine ⟨⟨_, _, T.mk_Address4, ok_Address4___init___Address4 (P := P) (w := w) (base := base) T, fun vs H Q E h a dx na ndx nda => ?_⟩, T.g_Address4⟩
  obtain ⟨b, n, rfl, hb, q⟩ := h
  have s1 : Same H (upd (upd H dx (.own a)) a (.ins (He.ga K "Address4") dx [])) := fun c u h => by
    rw [upd_ne (fun z => by rw [z, na] at h; cases h), upd_ne (fun z => by rw [z, ndx] at h; cases h)]; exact h
  exact ⟨a, dx, b, n, rfl, upd_same, hb.same s1, rfl, q a _ (same_made na ndx (Same.refl _)) na ⟨hb.ge, hb.lt, dx, upd_same⟩⟩
abbrev s_Address4___str__ : Stmt := (inClass (top 37) 12)
abbrev N_Address4___str__ : List Str := [("self" : Str)]
theorem sc_Address4___str__ : FnScope N_Address4___str__ [("self" : Str)] (defScope s_Address4___str__) := ⟨rfl, rfl, rfl, by decide +kernel, rfl, by decide +kernel, by decide +kernel⟩
def sp_Address4___str__ (K : Frag) : Sp := fun vs H Q E => ∃ (p : Addr) (n : Int), vs = [.ref p] ∧ IsA4 K H p n ∧ ∀ H', Same H H' → Q (.str (quadS n)) H'
theorem ok_Address4___str__ (T : Tx K mg) : Wc P w K mg base 3 (He.ma K (He.ga K "Address4") "__str__") (sp_Address4___str__ K) := by
  have F_quad_text := ok_quad_text (P := P) (w := w) (base := base) T
  refine fnr T.dm_Address4____str__ sc_Address4___str__ (fun vs H Q E h => by obtain ⟨p, n, rfl, ⟨n0, n1, dx, hp⟩, q⟩ := h; rfl) (fun _ _ _ _ _ _ us hl => match us, hl with | [_], _ => rfl) (fun cdv A outer s H vs Q E hr h => ?_)
  have nd := sc_Address4___str__.nd
  have hu := hu_of hr
  obtain ⟨p, n, rfl, ⟨n0, n1, dx, hp⟩, q⟩ := h
  refine ⟨_, PSs.nox (pss_one (ps_ret (pe_joined1 (pe_fmt (pe_f F_quad_text (hr.mono (by decide)) passL (pa_cons (p_fld K (pv 0)) pa_nil)))))), ?_⟩
  walk_at "rd"
  refine ⟨_, _, _, _, _, rfl, hp, T.c_Address4, T.na_Address4__number, rfl, ?_⟩
  walk_at "rd"
  refine ⟨n0, by omega, fun H1 s1 => ?_⟩
  refine Or.inl ⟨_, rfl, quadS_sz n0, q H1 s1⟩
abbrev s_number_of_str6 : Stmt := (top 36)
abbrev N_number_of_str6 : List Str := [("value" : Str), ("width" : Str)]
theorem sc_number_of_str6 : FnScope N_number_of_str6 [("value" : Str), ("width" : Str)] (defScope s_number_of_str6) := ⟨rfl, rfl, rfl, by decide +kernel, rfl, by decide +kernel, by decide +kernel⟩
def sp_number_of_str6 (K : Frag) : Sp := fun vs H Q E => ∃ (z : Str) (n : Nat), vs = [.str z, .int 128] ∧ z.length ≤ 100000 ∧ Good6 z n ∧ ∀ H', Same H H' → Q (.int n) H'
theorem ok_number_of_str6 (T : Tx K mg) : FnG P w K mg base 6 "number_of" (sp_number_of_str6 K) := by
  have F_is_integer := ok_is_integer (P := P) (w := w) (base := base) T
  have F_read_groups := ok_read_groups (P := P) (w := w) (base := base) T
  refine ⟨fnr T.d_number_of sc_number_of_str6 (fun vs H Q E h => by obtain ⟨z, n, rfl, hz, hq, q⟩ := h; rfl) (fun _ _ _ _ _ _ us hl => match us, hl with | [_, _], _ => rfl) (fun cdv A outer s H vs Q E hr h => ?_), T.kp_number_of, T.g_number_of⟩
  have nd := sc_number_of_str6.nd
  have hu := hu_of hr
  obtain ⟨z, n, rfl, hz, hq, q⟩ := h
  refine ⟨_, PSs.nox (pss_cons (ps_if (pt_val (pe_f F_is_integer (hr.mono (by decide)) passL (pa_cons (pv 0) pa_nil))) pss_never
        pss_nil)
        (pss_cons (ps_if (pt_val (pe_callB (c_isi K) (by rfl) T.f_isinstance bb_isinstance (pa_cons (pv 0) (pa_cons (pe_bltn (v := .ty "str") (u := .type "str") rfl T.f_str bb_str rfl) pa_nil)))) (pss_one (ps_ret (pe_ifExp (pt_cmpR op_eq (pv 1) (pe_gi T.i_WIDTH4) (nomark _)) pe_never (pe_f F_read_groups (hr.mono (by decide)) passL (pa_cons (pv 0) pa_nil)))))
        pss_nil)
        pss_never)), ?_⟩
  walk_at "rd"
  refine ⟨_, _, false, false, rfl, .base (.str z), kit_si, kit_sb, ?_⟩
  walk_at "rd"
  refine ⟨_, _, _, _, true, rfl, .ty _, .base (.str z), kit_ss, ?_⟩
  walk_at "rd"
  refine ⟨hz, hq.ok, hq.hex, ?_⟩
  rw [hq.val]
  exact q
/-- at p stands the version 4 address of n -/
structure IsA6 (K : Frag) (H : Hp) (p : Addr) (n : Int) : Prop where
  ge : 0 ≤ n
  lt : n < 340282366920938463463374607431768211456
  ob : ∃ dx, H p = some (.ins (He.ga K "Address6") dx [("number", .int n)])
theorem IsA6.same {K : Frag} {H H' : Hp} {p : Addr} {n : Int} (h : IsA6 K H p n) (e : Same H H') : IsA6 K H' p n := by
  obtain ⟨a, b, dx, c⟩ := h
  exact ⟨a, b, dx, e _ _ c⟩
theorem IsA6.sml {K : Frag} {H H' : Hp} {p : Addr} {n : Int} (h : IsA6 K H p n) (e : Sml H H') : IsA6 K H' p n := by
  obtain ⟨a, b, dx, c⟩ := h
  exact ⟨a, b, dx, e _ _ c (fun _ z => by cases z)⟩
abbrev s_Address6___init___int : Stmt := (inClass (top 38) 2)
abbrev N_Address6___init___int : List Str := [("self" : Str), ("value" : Str)]
theorem sc_Address6___init___int : FnScope N_Address6___init___int [("self" : Str), ("value" : Str)] (defScope s_Address6___init___int) := ⟨rfl, rfl, rfl, by decide +kernel, rfl, by decide +kernel, by decide +kernel⟩
def sp_Address6___init___int (K : Frag) : Sp := fun vs H Q E => ∃ (p dx : Addr) (i : Int), vs = [.ref p, .int i] ∧ H p = some (.ins (He.ga K "Address6") dx []) ∧ 0 ≤ i ∧ i < 340282366920938463463374607431768211456 ∧ Q .non (upd H p (.ins (He.ga K "Address6") dx [("number", .int i)]))
theorem ok_Address6___init___int (T : Tx K mg) : Wc P w K mg base 4 (He.ma K (He.ga K "Address6") "__init__") (sp_Address6___init___int K) := by
  have F_number_of_int := ok_number_of_int (P := P) (w := w) (base := base) T
  refine fnr T.dm_Address6____init__ sc_Address6___init___int (fun vs H Q E h => by obtain ⟨p, dx, i, rfl, hp, h0, h1, q⟩ := h; rfl) (fun _ _ _ _ _ _ us hl => match us, hl with | [_, _], _ => rfl) (fun cdv A outer s H vs Q E hr h => ?_)
  have nd := sc_Address6___init___int.nd
  have hu := hu_of hr
  obtain ⟨p, dx, i, rfl, hp, h0, h1, q⟩ := h
  refine ⟨_, PSs.nox (pss_one (ps_fld (pv 0) (pe_ifExp (pt_val (pe_callB (c_isi K) (by rfl) T.f_isinstance bb_isinstance (pa_cons (pv 1) (pa_cons (pe_glob (v := .ref (He.ga K "Address6")) rfl T.g_Address6 rfl) pa_nil)))) pe_never (pe_f F_number_of_int (hr.mono (by decide)) passL (pa_cons (pv 1) (pa_cons (pe_gi T.i_WIDTH6) pa_nil)))) rfl)), ?_⟩
  have x128 := e128
  walk_at "rd"
  refine ⟨_, _, _, _, false, rfl, .own _, .base (.int i), T.ki_int_Address6, ?_⟩
  walk_at "rd"
  refine ⟨_, _, rfl, .inr rfl, h0, by omega, ?_⟩
  walk_at "rd"
  exact ⟨p, _, dx, _, rfl, hp, T.c_Address6, T.na_Address6__number, lz, q⟩
abbrev s_Address6___init___str : Stmt := (inClass (top 38) 2)
abbrev N_Address6___init___str : List Str := [("self" : Str), ("value" : Str)]
theorem sc_Address6___init___str : FnScope N_Address6___init___str [("self" : Str), ("value" : Str)] (defScope s_Address6___init___str) := ⟨rfl, rfl, rfl, by decide +kernel, rfl, by decide +kernel, by decide +kernel⟩
def sp_Address6___init___str (K : Frag) : Sp := fun vs H Q E => ∃ (p dx : Addr) (z : Str) (n : Nat), vs = [.ref p, .str z] ∧ H p = some (.ins (He.ga K "Address6") dx []) ∧ z.length ≤ 100000 ∧ Good6 z n ∧ ∀ H', Same H H' → Q .non (upd H' p (.ins (He.ga K "Address6") dx [("number", .int n)]))
theorem ok_Address6___init___str (T : Tx K mg) : Wc P w K mg base 7 (He.ma K (He.ga K "Address6") "__init__") (sp_Address6___init___str K) := by
  have F_number_of_str6 := ok_number_of_str6 (P := P) (w := w) (base := base) T
  refine fnr T.dm_Address6____init__ sc_Address6___init___str (fun vs H Q E h => by obtain ⟨p, dx, z, n, rfl, hp, hz, hq, q⟩ := h; rfl) (fun _ _ _ _ _ _ us hl => match us, hl with | [_, _], _ => rfl) (fun cdv A outer s H vs Q E hr h => ?_)
  have nd := sc_Address6___init___str.nd
  have hu := hu_of hr
  obtain ⟨p, dx, z, n, rfl, hp, hz, hq, q⟩ := h
  refine ⟨_, PSs.nox (pss_one (ps_fld (pv 0) (pe_ifExp (pt_val (pe_callB (c_isi K) (by rfl) T.f_isinstance bb_isinstance (pa_cons (pv 1) (pa_cons (pe_glob (v := .ref (He.ga K "Address6")) rfl T.g_Address6 rfl) pa_nil)))) pe_never (pe_f F_number_of_str6 (hr.mono (by decide)) passL (pa_cons (pv 1) (pa_cons (pe_gi T.i_WIDTH6) pa_nil)))) rfl)), ?_⟩
  walk_at "rd"
  refine ⟨_, _, _, _, false, rfl, .own _, .base (.str z), T.ki_str_Address6, ?_⟩
  walk_at "rd"
  refine ⟨_, n, rfl, hz, hq, fun H1 s1 => ?_⟩
  walk_at "rd"
  exact ⟨p, _, dx, _, rfl, s1 _ _ hp, T.c_Address6, T.na_Address6__number, lz, q H1 s1⟩
abbrev s_Address6___init___Address6 : Stmt := (inClass (top 38) 2)
abbrev N_Address6___init___Address6 : List Str := [("self" : Str), ("value" : Str)]
theorem sc_Address6___init___Address6 : FnScope N_Address6___init___Address6 [("self" : Str), ("value" : Str)] (defScope s_Address6___init___Address6) := ⟨rfl, rfl, rfl, by decide +kernel, rfl, by decide +kernel, by decide +kernel⟩
def sp_Address6___init___Address6 (K : Frag) : Sp := fun vs H Q E => ∃ (p dx b : Addr) (n : Int), vs = [.ref p, .ref b] ∧ H p = some (.ins (He.ga K "Address6") dx []) ∧ IsA6 K H b n ∧ Q .non (upd H p (.ins (He.ga K "Address6") dx [("number", .int n)]))
theorem ok_Address6___init___Address6 (T : Tx K mg) : Wc P w K mg base 1 (He.ma K (He.ga K "Address6") "__init__") (sp_Address6___init___Address6 K) := by
  refine fnr T.dm_Address6____init__ sc_Address6___init___Address6 (fun vs H Q E h => by obtain ⟨p, dx, b, n, rfl, hp, ⟨n0, n1, db, hb⟩, q⟩ := h; rfl) (fun _ _ _ _ _ _ us hl => match us, hl with | [_, _], _ => rfl) (fun cdv A outer s H vs Q E hr h => ?_)
  have nd := sc_Address6___init___Address6.nd
  have hu := hu_of hr
  obtain ⟨p, dx, b, n, rfl, hp, ⟨n0, n1, db, hb⟩, q⟩ := h
  refine ⟨_, PSs.nox (pss_one (ps_fld (pv 0) (pe_ifExp (pt_val (pe_callB (c_isi K) (by rfl) T.f_isinstance bb_isinstance (pa_cons (pv 1) (pa_cons (pe_glob (v := .ref (He.ga K "Address6")) rfl T.g_Address6 rfl) pa_nil)))) (p_fld K (pv 1)) pe_never) rfl)), ?_⟩
  walk_at "rd"
  refine ⟨_, _, _, _, true, rfl, .own _, T.ty_Address6.tx hb, T.ki_Address6_Address6, ?_⟩
  walk_at "rd"
  refine ⟨_, _, _, _, _, rfl, hb, T.c_Address6, T.na_Address6__number, rfl, ?_⟩
  walk_at "rd"
  exact ⟨p, _, dx, _, rfl, hp, T.c_Address6, T.na_Address6__number, lz, q⟩
def sp_Address6_int (K : Frag) : Sp := fun vs H Q E => ∃ i : Int, vs = [.int i] ∧ 0 ≤ i ∧ i < 340282366920938463463374607431768211456 ∧ ∀ (a : Addr) (H' : Hp), Same H H' → H a = none → IsA6 K H' a i → Q (.ref a) H'
theorem ok_Address6_int (T : Tx K mg) : FnC P w K mg base 4 "Address6" (sp_Address6_int K) := by
  refine ⟨⟨_, _, T.mk_Address6, ok_Address6___init___int (P := P) (w := w) (base := base) T, fun vs H Q E h a dx na ndx nda => ?_⟩, T.g_Address6⟩
  obtain ⟨i, rfl, h0, h1, q⟩ := h
  exact ⟨a, dx, i, rfl, upd_same, h0, h1, rfl, q a _ (same_made na ndx (Same.refl _)) na ⟨h0, h1, dx, upd_same⟩⟩
def sp_Address6_str (K : Frag) : Sp := fun vs H Q E => ∃ (z : Str) (n : Int), vs = [.str z] ∧ z.length ≤ 100000 ∧ Good6 z n.toNat ∧ 0 ≤ n ∧ n < 340282366920938463463374607431768211456 ∧ ∀ (a : Addr) (H' : Hp), Same H H' → H a = none → IsA6 K H' a n → Q (.ref a) H'
theorem ok_Address6_str (T : Tx K mg) : FnC P w K mg base 7 "Address6" (sp_Address6_str K) := by
  refine ⟨⟨_, _, T.mk_Address6, ok_Address6___init___str (P := P) (w := w) (base := base) T, fun vs H Q E h a dx na ndx nda => ?_⟩, T.g_Address6⟩
  obtain ⟨z, n, rfl, hz, hq, hn0, hn, q⟩ := h
  obtain ⟨m, rfl⟩ := Int.eq_ofNat_of_zero_le hn0
  exact ⟨a, dx, z, m, rfl, upd_same, hz, hq, fun H1 s1 => ⟨rfl, q a _ (same_made na ndx s1) na ⟨hn0, hn, dx, upd_same⟩⟩⟩
def sp_Address6_Address6 (K : Frag) : Sp := fun vs H Q E => ∃ (b : Addr) (n : Int), vs = [.ref b] ∧ IsA6 K H b n ∧ ∀ (a : Addr) (H' : Hp), Same H H' → H a = none → IsA6 K H' a n → Q (.ref a) H'
theorem ok_Address6_Address6 (T : Tx K mg) : FnC P w K mg base 1 "Address6" (sp_Address6_Address6 K) := by
  refine ⟨⟨_, _, T.mk_Address6, ok_Address6___init___Address6 (P := P) (w := w) (base := base) T, fun vs H Q E h a dx na ndx nda => ?_⟩, T.g_Address6⟩
  obtain ⟨b, n, rfl, hb, q⟩ := h
  have s1 : Same H (upd (upd H dx (.own a)) a (.ins (He.ga K "Address6") dx [])) := fun c u h => by
    rw [upd_ne (fun z => by rw [z, na] at h; cases h), upd_ne (fun z => by rw [z, ndx] at h; cases h)]; exact h
  exact ⟨a, dx, b, n, rfl, upd_same, hb.same s1, rfl, q a _ (same_made na ndx (Same.refl _)) na ⟨hb.ge, hb.lt, dx, upd_same⟩⟩
abbrev s_Address6___str__ : Stmt := (inClass (top 38) 13)
abbrev N_Address6___str__ : List Str := [("self" : Str)]
theorem sc_Address6___str__ : FnScope N_Address6___str__ [("self" : Str)] (defScope s_Address6___str__) := ⟨rfl, rfl, rfl, by decide +kernel, rfl, by decide +kernel, by decide +kernel⟩
def sp_Address6___str__ (K : Frag) : Sp := fun vs H Q E => ∃ (p : Addr) (n : Int), vs = [.ref p] ∧ IsA6 K H p n ∧ ∀ H', Same H H' → Q (.str (g6S n)) H'
theorem ok_Address6___str__ (T : Tx K mg) : Wc P w K mg base 3 (He.ma K (He.ga K "Address6") "__str__") (sp_Address6___str__ K) := by
  have F_groups_text := ok_groups_text (P := P) (w := w) (base := base) T
  refine fnr T.dm_Address6____str__ sc_Address6___str__ (fun vs H Q E h => by obtain ⟨p, n, rfl, ⟨n0, n1, dx, hp⟩, q⟩ := h; rfl) (fun _ _ _ _ _ _ us hl => match us, hl with | [_], _ => rfl) (fun cdv A outer s H vs Q E hr h => ?_)
  have nd := sc_Address6___str__.nd
  have hu := hu_of hr
  obtain ⟨p, n, rfl, ⟨n0, n1, dx, hp⟩, q⟩ := h
  refine ⟨_, PSs.nox (pss_one (ps_ret (pe_joined1 (pe_fmt (pe_f F_groups_text (hr.mono (by decide)) passL (pa_cons (p_fld K (pv 0)) pa_nil)))))), ?_⟩
  walk_at "rd"
  refine ⟨_, _, _, _, _, rfl, hp, T.c_Address6, T.na_Address6__number, rfl, ?_⟩
  walk_at "rd"
  refine ⟨n0, fun H1 s1 => ?_⟩
  refine Or.inl ⟨_, rfl, g6S_sz n, q H1 s1⟩
/-! ### the names for looking up -/
theorem joinL_app {S : List Nat} : ∀ {A B : List (List Nat)}, A ≠ [] → B ≠ [] → joinL S (A ++ B) = joinL S A ++ (S ++ joinL S B)
  | [], _, h, _ => absurd rfl h
  | [p], [], _, h => absurd rfl h
  | [p], b :: r, _, _ => rfl
  | p :: q :: r, B, _, hB => by
    have ih := joinL_app (S := S) (A := q :: r) (B := B) (by simp) hB
    have e1 : joinL S (p :: q :: r ++ B) = p ++ (S ++ joinL S (q :: r ++ B)) := rfl
    have e2 : joinL S (p :: q :: r) = p ++ (S ++ joinL S (q :: r)) := rfl
    rw [e1, e2, ih]; simp
theorem dot_tl : tl ("." : Str) = [46] := by decide +kernel
theorem join_dot (xs : List Str) : tl (Txt.join ("." : Str) xs) = joinL [46] (xs.map tl) := by rw [join_eq, tl_join, dot_tl]
def ptr4 (n : Int) : Str := Txt.join ("." : Str) (quadParts n).reverse ++ (".in-addr.arpa" : Str)
theorem ptr4_eq (n : Int) : Txt.join ("." : Str) ((quadParts n).reverse ++ [("in-addr" : Str), ("arpa" : Str)]) = ptr4 n := by
  refine ext_tl ?_
  unfold ptr4
  rw [tl_append, join_dot, join_dot, List.map_append, joinL_app (by unfold quadParts; simp) (by simp)]
  congr 1
def signs6 (n : Int) : List Str := PyProof.Rows.signs (revS (hexZ 32 n.toNat))
def ptr6 (n : Int) : Str := Txt.join ("." : Str) (signs6 n) ++ (".ip6.arpa" : Str)
theorem signs_tl (y : Str) : PyProof.Rows.signs y = (tl y).map fun c => (⟨#[c]⟩ : Str) := rfl
theorem hexZ32_len {n : Int} (h0 : 0 ≤ n) (h1 : n < 340282366920938463463374607431768211456) : (hexZ 32 n.toNat).length = 32 := by
  have := hexL_len (n := n.toNat) (k := 32) (by decide) (by
    have e : (16 : Nat) ^ 32 = 340282366920938463463374607431768211456 := by decide +kernel
    rw [e]; omega)
  rw [len_tl, hexZ_tl, List.length_append, List.length_replicate]; omega
theorem signs6_len {n : Int} (h0 : 0 ≤ n) (h1 : n < 340282366920938463463374607431768211456) : (signs6 n).length = 32 := by
  unfold signs6
  rw [signs_tl, List.length_map, revS_tl, List.length_reverse, ← len_tl]; exact hexZ32_len h0 h1
theorem signs6_one (n : Int) : ∀ t ∈ signs6 n, t.length = 1 ∧ 46 ∉ tl t := by
  intro t ht
  unfold signs6 at ht
  rw [signs_tl] at ht
  obtain ⟨c, hc, rfl⟩ := List.mem_map.mp ht
  rw [revS_tl, List.mem_reverse, hexZ_tl] at hc
  refine ⟨rfl, fun hm => ?_⟩
  have e : 46 = c := List.mem_singleton.mp hm
  subst e
  rcases List.mem_append.mp hc with hc | hc
  · have := (List.mem_replicate.mp hc).2
    omega
  · obtain ⟨d, hd, e⟩ := hexL_all n.toNat _ hc
    have := hexU_ok _ (hd16_U d hd)
    rw [← e] at this
    exact this.2.2.2.2 rfl
theorem ptr6_eq {n : Int} (h0 : 0 ≤ n) (h1 : n < 340282366920938463463374607431768211456) : Txt.join ("." : Str) (signs6 n ++ [("ip6" : Str), ("arpa" : Str)]) = ptr6 n := by
  have hl := signs6_len h0 h1
  refine ext_tl ?_
  unfold ptr6
  rw [tl_append, join_dot, join_dot, List.map_append, joinL_app (by intro e; have := congrArg List.length e; rw [List.length_map, hl] at this; cases this) (by simp)]
  congr 1
theorem ptr6_count {n : Int} (h0 : 0 ≤ n) (h1 : n < 340282366920938463463374607431768211456) : Txt.count (ptr6 n) ("." : Str) = 33 := by
  have hl := signs6_len h0 h1
  rw [count_spl _ _ (by rw [dot_tl]; simp), dot_tl, ← ptr6_eq h0 h1, join_dot, spl_join (by
    intro e
    have := congrArg List.length e
    rw [List.length_map, List.length_append, hl] at this
    cases this) (by
    intro p hp
    obtain ⟨t, ht, rfl⟩ := List.mem_map.mp hp
    rcases List.mem_append.mp ht with ht | ht
    · exact (signs6_one n t ht).2
    · have key : ∀ t ∈ [("ip6" : Str), ("arpa" : Str)], 46 ∉ tl t := by decide +kernel
      exact key t ht), List.length_map, List.length_append, hl]; rfl
theorem joinOk6 {n : Int} (h0 : 0 ≤ n) (h1 : n < 340282366920938463463374607431768211456) : JoinOk ("." : Str) (PyProof.Rows.signs (revS (hexZ 32 n.toNat))) = true := by
  have hl := signs6_len h0 h1
  have hs := sum_le (f := fun t : Str => t.length) (k := 1) (xs := signs6 n) fun t ht => Nat.le_of_eq (signs6_one n t ht).1
  refine PyProof.Rows.joinOk_of_weight (ys := signs6 n) ?_ (by decide +kernel)
  omega
theorem ptr4_len {n : Int} (h : 0 ≤ n) : (Txt.join ("." : Str) (quadParts n).reverse).length ≤ 16 := by
  rw [len_tl, join_dot]
  refine Nat.le_trans (joinL_len _ _) ?_
  have a := fun s => numS_len (part_b n s).1 (part_b n s).2
  unfold quadParts
  simp only [List.map_cons, List.map_nil, List.reverse_cons, List.reverse_nil, List.nil_append, List.cons_append, List.sum_cons, List.sum_nil, List.length_cons, List.length_nil, ← len_tl]
  have a1 := a 24
  have a2 := a 16
  have a3 := a 8
  have a4 := a 0
  omega
theorem ptr4_sz {n : Int} (h : 0 ≤ n) : ((quadParts n).reverse.map (·.length)).sum + (quadParts n).reverse.length * ("." : Str).length ≤ 16777216 := by
  have a := fun s => numS_len (part_b n s).1 (part_b n s).2
  have l1 : ("." : Str).length = 1 := by decide +kernel
  rw [l1]
  unfold quadParts
  simp only [List.map_cons, List.map_nil, List.reverse_cons, List.reverse_nil, List.nil_append, List.cons_append, List.sum_cons, List.sum_nil, List.length_cons, List.length_nil]
  have a1 := a 24
  have a2 := a 16
  have a3 := a 8
  have a4 := a 0
  omega
theorem join6_len {n : Int} (h0 : 0 ≤ n) (h1 : n < 340282366920938463463374607431768211456) : (Txt.join ("." : Str) (signs6 n)).length ≤ 64 := by
  have hl := signs6_len h0 h1
  have hs := sum_le (f := fun t : Str => t.length) (k := 1) (xs := signs6 n) fun t ht => Nat.le_of_eq (signs6_one n t ht).1
  rw [len_tl, join_dot]
  refine Nat.le_trans (joinL_len _ _) ?_
  have e : ((signs6 n).map tl).map List.length = (signs6 n).map fun t : Str => t.length := by
    rw [List.map_map]
    exact List.map_congr_left fun t _ => (len_tl t).symm
  rw [e, List.length_map]
  show _ + _ * 1 ≤ _
  omega
abbrev s_Address4_pointer : Stmt := (inClass (top 37) 7)
abbrev N_Address4_pointer : List Str := [("self" : Str)]
theorem sc_Address4_pointer : FnScope N_Address4_pointer [("self" : Str)] (defScope s_Address4_pointer) := ⟨rfl, rfl, rfl, by decide +kernel, rfl, by decide +kernel, by decide +kernel⟩
def sp_Address4_pointer (K : Frag) : Sp := fun vs H Q E => ∃ (p : Addr) (n : Int), vs = [.ref p] ∧ IsA4 K H p n ∧ ∀ H', Same H H' → Q (.str (ptr4 n)) H'
theorem ok_Address4_pointer (T : Tx K mg) : Wc P w K mg base 2 (wfA K "Address4" "property" "pointer") (sp_Address4_pointer K) := by
  have F_quad_parts := ok_quad_parts (P := P) (w := w) (base := base) T
  refine fnr T.dm_Address4__pointer sc_Address4_pointer (fun vs H Q E h => by obtain ⟨p, n, rfl, ha, q⟩ := h; rfl) (fun _ _ _ _ _ _ us hl => match us, hl with | [_], _ => rfl) (fun cdv A outer s H vs Q E hr h => ?_)
  have nd := sc_Address4_pointer.nd
  have hu := hu_of hr
  obtain ⟨p, n, rfl, ha, q⟩ := h
  refine ⟨_, PSs.nox (pss_one (ps_ret (pe_op op_add_str (pe_join pe_str (p_revA K (pe_f F_quad_parts (hr.mono (by decide)) passL (pa_cons (p_fld K (pv 0)) pa_nil)))) pe_str))), ?_⟩
  have n0 := ha.ge
  have n1 := ha.lt
  have jl := ptr4_len n0
  have c1 : (".in-addr.arpa" : Str).length = 13 := by decide +kernel
  refine ⟨⟨_, rfl⟩, _, rfl, ?_⟩
  obtain ⟨d1, o1⟩ := ha.ob
  refine ⟨_, _, _, _, _, rfl, o1, T.c_Address4, T.na_Address4__number, rfl, _, rfl, (by walk_at "pre"), (by walk_at "pre"), fun p1 H1 sa1 no1 fa1 => ?_⟩
  refine ⟨_, _, rfl, (SqL.of fa1), fun p2 H2 sa2 no2 fa2 => ?_⟩
  refine ⟨_, _, (quadParts n).reverse, rfl, rfl, Or.inl (SqL.of (by rw [List.map_reverse]; exact fa2)), (ptr4_sz n0), _, _, rfl, rfl, (sizeL' (by omega)), ?_⟩
  exact q _ (sa1.trans sa2)
abbrev s_Address6_pointer : Stmt := (inClass (top 38) 7)
abbrev N_Address6_pointer : List Str := [("self" : Str)]
theorem sc_Address6_pointer : FnScope N_Address6_pointer [("self" : Str)] (defScope s_Address6_pointer) := ⟨rfl, rfl, rfl, by decide +kernel, rfl, by decide +kernel, by decide +kernel⟩
def sp_Address6_pointer (K : Frag) : Sp := fun vs H Q E => ∃ (p : Addr) (n : Int), vs = [.ref p] ∧ IsA6 K H p n ∧ ∀ H', Same H H' → Q (.str (ptr6 n)) H'
theorem ok_Address6_pointer (T : Tx K mg) : Wc P w K mg base 1 (wfA K "Address6" "property" "pointer") (sp_Address6_pointer K) := by
  refine fnr T.dm_Address6__pointer sc_Address6_pointer (fun vs H Q E h => by obtain ⟨p, n, rfl, ha, q⟩ := h; rfl) (fun _ _ _ _ _ _ us hl => match us, hl with | [_], _ => rfl) (fun cdv A outer s H vs Q E hr h => ?_)
  have nd := sc_Address6_pointer.nd
  have hu := hu_of hr
  obtain ⟨p, n, rfl, ha, q⟩ := h
  refine ⟨_, PSs.nox (pss_one (ps_ret (pe_op op_add_str (pe_m1 PySem.F.slot_str_join PySem.F.type_str_join (mt_joinS rfl) pe_str (p_revS (pe_joined1 (pe_fmtX32 (p_fld K (pv 0)))))) pe_str))), ?_⟩
  have n0 := ha.ge
  have n1 := ha.lt
  have jl := join6_len n0 n1
  have hl := hexZ32_len n0 n1
  have c1 : (".ip6.arpa" : Str).length = 9 := by decide +kernel
  have jo := joinOk6 n0 n1
  unfold ptr6 signs6 at q
  unfold signs6 at jl
  obtain ⟨m, rfl⟩ := Int.eq_ofNat_of_zero_le n0
  rw [Int.toNat_natCast] at hl jl jo q
  refine ⟨⟨_, rfl⟩, _, rfl, ?_⟩
  obtain ⟨d1, o1⟩ := ha.ob
  refine ⟨_, _, _, _, _, rfl, o1, T.c_Address6, T.na_Address6__number, rfl, _, rfl, (sizeL' (by first | omega | (rw [revS_len]; omega))), _, rfl, (sizeL' (by first | omega | (rw [revS_len]; omega))), _, _, rfl, rfl, jo, fun H1 sa1 => ?_⟩
  refine ⟨_, _, rfl, rfl, (sizeL' (by first | omega | (rw [revS_len]; omega))), ?_⟩
  exact q _ sa1
theorem tl_inj {z y : Str} (h : tl z = tl y) : z = y := ext_tl h
theorem parts_rev (n : Int) : ([0, 8, 16, 24] : List Nat).map (fun s : Nat => V.str (numS (n / 2 ^ s % 256))) = (quadParts n).reverse.map V.str := rfl
theorem signs_rev (n : Int) : ((tl (hexZ 32 n.toNat)).map sgn).reverse = (signs6 n).map V.str := by
  unfold signs6
  rw [signs_tl, revS_tl, List.map_map, ← List.map_reverse]; rfl
theorem good4_quad {n : Int} (h0 : 0 ≤ n) (h1 : n < 4294967296) : Good4 (quadS n) n := ⟨quad_good n, (quad_back h0 h1).symm, h1⟩
theorem lit4a : Good4 ("10.0.0.255" : Str) 167772415 := ⟨by decide +kernel, by decide +kernel, by decide⟩
theorem lit4p : ptr4 167772415 = ("255.0.0.10.in-addr.arpa" : Str) := by decide +kernel
theorem sz34 {n : Int} (h0 : 0 ≤ n) (h1 : n < 340282366920938463463374607431768211456) : ((signs6 n ++ [("ip6" : Str), ("arpa" : Str)]).map (·.length)).sum + (signs6 n ++ [("ip6" : Str), ("arpa" : Str)]).length * ("." : Str).length ≤ 16777216 := by
  have hl := signs6_len h0 h1
  have hs := sum_le (f := fun t : Str => t.length) (k := 1) (xs := signs6 n) fun t ht => Nat.le_of_eq (signs6_one n t ht).1
  have c1 : ("ip6" : Str).length = 3 := by decide +kernel
  have c2 : ("arpa" : Str).length = 4 := by decide +kernel
  have l1 : ("." : Str).length = 1 := by decide +kernel
  rw [List.map_append, List.sum_append, List.length_append, hl, l1]
  simp only [List.map_cons, List.map_nil, List.sum_cons, List.sum_nil, List.length_cons, List.length_nil, c1, c2]
  omega
theorem sz6 {n : Int} (h : 0 ≤ n) : (((quadParts n).reverse ++ [("in-addr" : Str), ("arpa" : Str)]).map (·.length)).sum + ((quadParts n).reverse ++ [("in-addr" : Str), ("arpa" : Str)]).length * ("." : Str).length ≤ 16777216 := by
  have a := fun s => numS_len (part_b n s).1 (part_b n s).2
  have l1 : ("." : Str).length = 1 := by decide +kernel
  have c1 : ("in-addr" : Str).length = 7 := by decide +kernel
  have c2 : ("arpa" : Str).length = 4 := by decide +kernel
  rw [l1]
  unfold quadParts
  simp only [List.map_cons, List.map_nil, List.reverse_cons, List.reverse_nil, List.nil_append, List.cons_append, List.sum_cons, List.sum_nil, List.length_cons, List.length_nil, c1, c2]
  have a1 := a 24
  have a2 := a 16
  have a3 := a 8
  have a4 := a 0
  omega
theorem for_range9 {g : TG} {tb : TS} {D : Ends} {H : Hp} {u0 u1 u2 u3 u4 u5 u6 u7 u8 : Option V} {lo : Int} {n : Nat} (Pv : Option V → Option V → Option V → Option V → Option V → Option V → Option V → Option V → Option V → Hp → Nat → L2.St → Hp → Prop) (h0 : Pv u0 u1 u2 u3 u4 u5 u6 u7 u8 H 0 [u0, u1, u2, u3, u4, u5, u6, u7, u8] H) (hs : ∀ i σ' H', i < n → Pv u0 u1 u2 u3 u4 u5 u6 u7 u8 H i σ' H' → g (.int (lo + i)) σ' H' fun σ2 H2 => tb { D with nx := Pv u0 u1 u2 u3 u4 u5 u6 u7 u8 H (i + 1), ct := Pv u0 u1 u2 u3 u4 u5 u6 u7 u8 H (i + 1), bk := D.nx } σ2 H2) (hd : ∀ σ' H', Pv u0 u1 u2 u3 u4 u5 u6 u7 u8 H n σ' H' → D.nx σ' H') :
    ∃ W : Nat → Nat → L2.St → Hp → Prop, (∃ m, W 0 m [u0, u1, u2, u3, u4, u5, u6, u7, u8] H) ∧ ∀ i m σ H, W i m σ H →
      ((Itr lo n).stop i H ∧ D.nx σ H) ∨ ((Itr lo n).go i H ∧ ∃ N : L2.St → Hp → Prop, (∀ σ' H', N σ' H' → ∃ m', m' < m ∧ W (i + 1) m' σ' H') ∧ ∀ x H', (Itr lo n).yld i H x H' → g x σ H' fun σ2 H2 => tb { D with nx := N, ct := N, bk := D.nx } σ2 H2) :=
  for_rangeS (σ := [u0, u1, u2, u3, u4, u5, u6, u7, u8]) (fun _ => Pv u0 u1 u2 u3 u4 u5 u6 u7 u8) h0 hs hd
abbrev s_law : Stmt := (top 48)
abbrev N_law : List Str := [("_law_script" : Str), ("_law_k" : Str), ("_law_source_here" : Str), ("_law_small" : Str), ("_law_large" : Str), ("_law_numbers" : Str), ("_law_due" : Str), ("_law_signs" : Str), ("_law_shift" : Str)]
theorem sc_law : FnScope N_law [("_law_script" : Str)] (defScope s_law) := ⟨rfl, rfl, rfl, by decide +kernel, rfl, by decide +kernel, by decide +kernel⟩
def sp_law (K : Frag) : Sp := fun vs H Q E => ∃ (a : Addr) (ns : List Int), vs = [.ref a] ∧ SqL K H a (ns.map V.int) ∧ ns.length ≤ 63 ∧ ∀ H', Q (.bl true) H'
theorem ok_law (T : Tx K mg) : ∃ fd : FuncData, (∀ (s : Shared) (u : Value), BindsTo s fd ⟨[u], []⟩ [("_law_script", u)]) ∧ ∀ base : Heap, FnOk P w K mg base CX0 9 (He.ga K "law") fd ["_law_script"] (sp_law K) := by
  obtain ⟨fd, F⟩ := T.d_law
  have gl := T.g_law
  refine ⟨fd, fun s v => F.bindsA (ps := ["_law_script"]) (fun _ _ _ _ _ _ us hl => match us, hl with | [_], _ => rfl) s [v] rfl, fun base => F.ok (CX := CX0) sc_law (fun vs H Q E h => by obtain ⟨a, ns, rfl, hS, hlen, k⟩ := h; rfl) (fun cdv A outer s H vs Q E hr h => ?_)⟩
  have F__law_source := ok__law_source (P := P) (w := w) (base := base) T
  have F__law_number := ok__law_number (P := P) (w := w) (base := base) T
  have F__law_quad := ok__law_quad (P := P) (w := w) (base := base) T
  have F_Address4_str := ok_Address4_str (P := P) (w := w) (base := base) T
  have F_Address4_pointer := ok_Address4_pointer (P := P) (w := w) (base := base) T
  have F_Address4_int := ok_Address4_int (P := P) (w := w) (base := base) T
  have F__law_hex := ok__law_hex (P := P) (w := w) (base := base) T
  have F__law_spelled := ok__law_spelled (P := P) (w := w) (base := base) T
  have F_Address6_str := ok_Address6_str (P := P) (w := w) (base := base) T
  have F_Address6_pointer := ok_Address6_pointer (P := P) (w := w) (base := base) T
  have F_Address6_int := ok_Address6_int (P := P) (w := w) (base := base) T
  have nd := sc_law.nd
  have hu := hu_of hr
  obtain ⟨a, ns, rfl, hS, hlen, k⟩ := h
  refine ⟨_, PSs.nox (pss_cons (ps_for PassesOwn.never rfl (pi_range1 (by rfl) T.f_range (pa_cons (pe_callB (call_max2 rfl) (by rfl) T.f_max bb_max (pa_cons pe_int (pa_cons (pe_callB (call_min2 rfl) (by rfl) T.f_min bb_min (pa_cons pe_int (pa_cons (pe_callB (c_lenq K) (by rfl) T.f_len bb_len (pa_cons (pv 0) pa_nil)) pa_nil))) pa_nil))) pa_nil)) (pg_name (i := 1) nd rfl (Or.inl rfl))
        (pss_cons (ps_set (i := 2) nd rfl (Or.inl rfl) (pe_f F__law_source (hr.mono (by decide)) passL (pa_cons (pv 0) (pa_cons (pv 1) pa_nil))))
        (pss_cons (ps_asg (p_tup (pa_cons (pe_f F__law_number (hr.mono (by decide)) passL (pa_cons (pv 2) (pa_cons pe_int pa_nil))) (pa_cons (pe_f F__law_number (hr.mono (by decide)) passL (pa_cons (pv 2) (pa_cons pe_int pa_nil))) pa_nil))) (pg_tup rfl (pgs_cons (pg_name (i := 3) nd rfl (Or.inr rfl)) (pgs_cons (pg_name (i := 4) nd rfl (Or.inl rfl)) pgs_nil))))
        (pss_cons (ps_setLc (i := 5) (own := [("_law_shift", 8)]) rfl nd rfl rfl (sw_true rfl rfl rfl (by decide +kernel)) (i_tup K (p_tup (pa_cons pe_int (pa_cons pe_int (pa_cons pe_int (pa_cons pe_int pa_nil)))))) (blkOk_by (own := [("_law_shift", 8)]) (N := N_law) (sc := defScope s_law) (by decide +kernel)) (fun _ _ _ _ _ => (pg_name (i := 8) nd rfl (Or.inl rfl))) (fun _ _ _ _ _ => pts_nil) (fun _ _ _ _ _ => (pe_callTy call_str_int (by rfl) T.f_str bb_str (pa_cons (pe_op op_and (pe_op op_shr (pv 3) (pv 8)) pe_int) pa_nil))))
        (pss_cons (ps_set (i := 6) nd rfl (Or.inl rfl) (pe_join pe_str (pe_op (o_catA K) (pv 5) (p_lst (pa_cons pe_str (pa_cons pe_str pa_nil))))))
        (pss_cons (ps_if (PW.pt (pw_or (pt_cmpR op_ne (pe_pr (pe_cl F_Address4_int (hr.mono (by decide)) passL (pa_cons (pv 3) pa_nil)) T.c_Address4 T.p_Address4__pointer F_Address4_pointer (hr.mono (by decide))) (pv 6) (nomark _)) (pw_or1 (pt_cmpR op_ne (pe_pr (pe_cl F_Address4_str (hr.mono (by decide)) passL (pa_cons (pe_f F__law_quad (hr.mono (by decide)) passL (pa_cons (pv 3) pa_nil)) pa_nil)) T.c_Address4 T.p_Address4__pointer F_Address4_pointer (hr.mono (by decide))) (pv 6) (nomark _))))) (pss_one (ps_ret pe_bl))
        pss_nil)
        (pss_cons (ps_set (i := 7) nd rfl (Or.inl rfl) (p_revA K (pe_callTy (c_listS rfl) (by rfl) T.f_list bb_list (pa_cons (pe_f F__law_hex (hr.mono (by decide)) passL (pa_cons (pv 4) (pa_cons pe_int pa_nil))) pa_nil))))
        (pss_cons (ps_set (i := 6) nd rfl (Or.inl rfl) (pe_join pe_str (pe_op (o_catA K) (pv 7) (p_lst (pa_cons pe_str (pa_cons pe_str pa_nil))))))
        (pss_cons (ps_if (PW.pt (pw_or (pt_cmpR op_ne (pe_pr (pe_cl F_Address6_int (hr.mono (by decide)) passL (pa_cons (pv 4) pa_nil)) T.c_Address6 T.p_Address6__pointer F_Address6_pointer (hr.mono (by decide))) (pv 6) (nomark _)) (pw_or1 (pt_cmpR op_ne (pe_pr (pe_cl F_Address6_str (hr.mono (by decide)) passL (pa_cons (pe_f F__law_spelled (hr.mono (by decide)) passL (pa_cons (pv 2) (pa_cons (pv 4) pa_nil))) pa_nil)) T.c_Address6 T.p_Address6__pointer F_Address6_pointer (hr.mono (by decide))) (pv 6) (nomark _))))) (pss_one (ps_ret pe_bl))
        pss_nil)
        (pss_one (ps_if (pt_cmpR op_ne (pe_m1 PySem.F.slot_str_count PySem.F.type_str_count mt_count (pe_pr (pe_cl F_Address6_int (hr.mono (by decide)) passL (pa_cons (pv 4) pa_nil)) T.c_Address6 T.p_Address6__pointer F_Address6_pointer (hr.mono (by decide))) pe_str) pe_int (nomark _)) (pss_one (ps_ret pe_bl))
        pss_nil)))))))))))
        (pss_one (ps_ret (pe_cmpR op_eq (pe_pr (pe_cl F_Address4_str (hr.mono (by decide)) passL (pa_cons pe_str pa_nil)) T.c_Address4 T.p_Address4__pointer F_Address4_pointer (hr.mono (by decide))) pe_str (nomark _))))), ?_⟩
  have x32 := e32
  have x128 := e128
  have g1 := lit4a
  refine ⟨_, rfl, _, _, rfl, Or.inl hS, _, _, rfl, _, _, rfl, ?_⟩
  obtain ⟨N, hN, N1, N8⟩ := max_min8 ((ns.map V.int).length : Int) (by omega) 8 (by decide)
  rw [hN]
  refine ⟨_, rfl, ?_⟩
  refine ⟨(by omega), (by omega), for_range9 (n := _) (fun u0 u1 u2 u3 u4 u5 u6 u7 u8 H0 i σ Hx => ∃ w1 w2 w3 w4 w5 w6 w7 : Option V, σ = [u0, w1, w2, w3, w4, w5, w6, w7, u8] ∧ Same H0 Hx) ⟨_, _, _, _, _, _, _, rfl, (Same.refl _)⟩ ?_ ?_⟩
  · rintro i σ H2 hi1 ⟨w1, w2, w3, w4, w5, w6, w7, rfl, sa1⟩
    refine ⟨_, rfl, _, rfl, _, _, _, rfl, (sa1.seq hS), (by walk_at "pre"), (by walk_at "pre"), (by walk_at "pre"), fun p1 H3 sa2 no1 fa1 => ?_⟩
    refine ⟨_, rfl, _, _, rfl, (by walk_at "pre"), fa1, fun n1 H4 hy1 hy2 sa3 => ?_⟩
    refine ⟨_, rfl, _, _, rfl, (by walk_at "pre"), (fa1.same sa3), fun n2 H5 hy3 hy4 sa4 => ?_⟩
    refine ⟨lz, fun p2 H6 sa5 no2 fa2 => ?_⟩
    refine ⟨_, _, rfl, (SqT.of fa2), rfl, _, _, rfl, _, _, rfl, rfl, lz, fun p3 H7 sa6 no3 fa3 => ?_⟩
    rw [x32] at hy2
    rw [x128] at hy4
    have gq := good4_quad hy1 hy2
    have ql := quadS_len hy1
    have hl32 := hexZ32_len hy3 hy4
    have hl33 : (hexZ (Int.toNat 32) n2.toNat).length = 32 := hl32
    refine ⟨_, rfl, ⟨_, (SqT.of fa3)⟩, fun p4 no4 => ?_⟩
    refine lc_mp ([0, 8, 16, 24] : List Nat) (fun s : Nat => V.int (s : Int)) (fun s : Nat => V.str (numS (n1 / 2 ^ s % 256))) (walk_tup (K := K) (a := p3) (xs := ([0, 8, 16, 24] : List Nat).map fun s : Nat => V.int (s : Int))) rfl (by decide) yat_map no4 (fun H' s' => s'.seqT (SqT.of fa3)) ?_ ?_
    · intro c1 hc1 H9 sa8 Qe1 ke1
      have nn : 0 ≤ n1 / 2 ^ ((c1 : Int)).toNat := Int.ediv_nonneg hy1 (by have := pow_pos' ((c1 : Int)).toNat; omega)
      have ea := and255 nn
      refine ⟨rfl, _, rfl, _, rfl, _, _, rfl, rfl, (by walk_at "side"), _, _, rfl, rfl, _, rfl, (by walk_at "log"), ?_⟩
      rw [ea]; exact ke1 _ (Same.refl _)
    · intro H8 sa7 fa4
      refine ⟨⟨_, rfl⟩, _, rfl, lz, fun p5 H10 sa9 no5 fa5 => ?_⟩
      refine ⟨_, _, _, _, rfl, rfl, (SqL.of (sa9 _ _ fa4)), (SqL.of fa5), (by walk_at "len"), fun p6 H11 sa10 no6 fa6 => ?_⟩
      refine ⟨_, _, (quadParts n1).reverse ++ [("in-addr" : Str), ("arpa" : Str)], rfl, rfl, Or.inl (SqL.of (by rw [List.map_append]; exact fa6)), (sz6 hy1), _, rfl, _, rfl, (by walk_at "pre"), (by walk_at "pre"), fun a1 H12 sa11 no7 fa7 => ?_⟩
      obtain ⟨d1, o1⟩ := fa7.ob
      refine ⟨_, _, _, rfl, o1, _, _, rfl, fa7, fun H13 sa12 => ?_⟩
      refine ⟨_, rfl, rfl, false, congrArg V.bl (by exact strF (ptr4_eq n1).symm), ?_⟩
      refine itF rfl ?_
      refine ⟨_, rfl, _, rfl, (by walk_at "pre"), (by walk_at "pre"), fun H14 sa13 => ?_⟩
      refine ⟨_, _, rfl, (by walk_at "pre"), (by walk_at "pre"), fun a2 H15 sa14 no8 fa8 => ?_⟩
      obtain ⟨d2, o2⟩ := fa8.ob
      refine ⟨_, _, _, rfl, o2, _, _, rfl, fa8, fun H16 sa15 => ?_⟩
      refine ⟨_, rfl, rfl, false, congrArg V.bl (by exact strF (ptr4_eq n1).symm), ?_⟩
      refine itF rfl ?_
      refine ⟨_, rfl, _, _, rfl, (by walk_at "pre"), (by walk_at "pre"), (by walk_at "pre"), (by walk_at "pre"), _, rfl, (by walk_at "len"), fun p7 H17 sa16 no9 fa9 => ?_⟩
      refine ⟨_, _, rfl, (SqL.of fa9), fun p8 H18 sa17 no10 fa10 => ?_⟩
      refine ⟨⟨_, rfl⟩, _, rfl, lz, fun p9 H19 sa18 no11 fa11 => ?_⟩
      refine ⟨_, _, _, _, rfl, rfl, (SqL.of (sa18 _ _ fa10)), (SqL.of fa11), (sizeL' (by simp only [List.length_reverse, List.length_map, List.length_cons, List.length_nil, ← len_tl]; omega)), fun p10 H20 sa19 no12 fa12 => ?_⟩
      refine ⟨_, _, signs6 n2 ++ [("ip6" : Str), ("arpa" : Str)], rfl, rfl, Or.inl (SqL.of (by rw [List.map_append, ← signs_rev]; exact fa12)), (sz34 hy3 hy4), _, rfl, _, rfl, (by walk_at "pre"), (by walk_at "pre"), fun a3 H21 sa20 no13 fa13 => ?_⟩
      obtain ⟨d3, o3⟩ := fa13.ob
      refine ⟨_, _, _, rfl, o3, _, _, rfl, fa13, fun H22 sa21 => ?_⟩
      refine ⟨_, rfl, rfl, false, congrArg V.bl (by exact strF (ptr6_eq hy3 hy4).symm), ?_⟩
      refine itF rfl ?_
      refine ⟨_, rfl, _, rfl, _, _, rfl, (fa1.same (sa3.trans (sa4.trans (sa5.trans (sa6.trans (sa7.trans (sa9.trans (sa10.trans (sa11.trans (sa12.trans (sa13.trans (sa14.trans (sa15.trans (sa16.trans (sa17.trans (sa18.trans (sa19.trans (sa20.trans sa21)))))))))))))))))), (by walk_at "pre"), (by walk_at "pre"), fun z1 H23 sa22 hy5 hy6 hy7 => ?_⟩
      refine ⟨_, _, rfl, (by walk_at "pre"), (by walk_at "pre"), (by walk_at "pre"), (by walk_at "pre"), fun a4 H24 sa23 no14 fa14 => ?_⟩
      obtain ⟨d4, o4⟩ := fa14.ob
      refine ⟨_, _, _, rfl, o4, _, _, rfl, fa14, fun H25 sa24 => ?_⟩
      refine ⟨_, rfl, rfl, false, congrArg V.bl (by exact strF (ptr6_eq hy3 hy4).symm), ?_⟩
      refine itF rfl ?_
      refine ⟨_, rfl, _, rfl, (by walk_at "pre"), (by walk_at "pre"), fun a5 H26 sa25 no15 fa15 => ?_⟩
      obtain ⟨d5, o5⟩ := fa15.ob
      refine ⟨_, _, _, rfl, o5, _, _, rfl, fa15, fun H27 sa26 => ?_⟩
      refine ⟨⟨_, rfl⟩, _, _, rfl, rfl, rfl, false, congrArg V.bl (by exact intF (ptr6_count hy3 hy4)), ?_⟩
      refine itF rfl ?_
      exact ⟨_, _, _, _, _, _, _, rfl, (sa1.trans (sa2.trans (sa3.trans (sa4.trans (sa5.trans (sa6.trans (sa7.trans (sa9.trans (sa10.trans (sa11.trans (sa12.trans (sa13.trans (sa14.trans (sa15.trans (sa16.trans (sa17.trans (sa18.trans (sa19.trans (sa20.trans (sa21.trans (sa22.trans (sa23.trans (sa24.trans (sa25.trans sa26))))))))))))))))))))))))⟩
  · rintro σ H28 ⟨w1, w2, w3, w4, w5, w6, w7, rfl, sa27⟩
    refine ⟨_, _, rfl, (by decide +kernel), g1, fun a6 H29 sa28 no16 fa16 => ?_⟩
    obtain ⟨d6, o6⟩ := fa16.ob
    refine ⟨_, _, _, rfl, o6, _, _, rfl, fa16, fun H30 sa29 => ?_⟩
    refine ⟨rfl, ?_⟩
    rw [lit4p, eqT rfl]; exact k _
end
def fn : List He5.DefA :=
  ([dG "_law_mix" (top 40),
   dG "_law_source" (top 41),
   dG "_law_draw" (top 42),
   dG "_law_number" (top 43),
   dG "part_fault" (top 10),
   dG "quad_fault" (top 11),
   dG "read_quad" (top 12),
   dG "quad_parts" (top 13),
   dG "quad_text" (top 14),
   dG "quad_place" (top 17)] : List He5.DefA) ++
  ([dG "has_wrong_quad" (top 18),
   dG "has_wrong_gaps" (top 19),
   dG "has_wrong_ends" (top 20),
   dG "hex_groups" (top 21),
   dG "parts_of" (top 22),
   dG "has_wrong_count" (top 23),
   dG "groups_fault" (top 24),
   dG "hex_number" (top 25),
   dG "read_groups" (top 26),
   dG "group_numbers" (top 27)] : List He5.DefA) ++
  ([dG "longest_run" (top 28),
   dG "groups_text" (top 29),
   dG "is_integer" (top 33),
   dG "is_from" (top 34),
   dG "number_of" (top 36),
   dG "_law_quad" (top 44),
   dG "_law_groups" (top 45),
   dG "_law_hex" (top 46),
   dG "_law_spelled" (top 47),
   dM "Address4" "__init__" "Address4.__init__" (inClass (top 37) 2)] : List He5.DefA) ++
  ([dM "Address4" "__str__" "Address4.__str__" (inClass (top 37) 12),
   dM "Address6" "__init__" "Address6.__init__" (inClass (top 38) 2),
   dM "Address6" "__str__" "Address6.__str__" (inClass (top 38) 13),
   dW "Address4" "property" "pointer" "Address4.pointer" (inClass (top 37) 7),
   dW "Address6" "property" "pointer" "Address6.pointer" (inClass (top 38) 7),
   dG "law" (top 48)] : List He5.DefA)
def fb : List (Frag → Bool) :=
  ([fun K => keepIn K (.ref (He.ga K "_law_mix")),
   fun K => (He.Fa.glo "_law_mix").ok K,
   fun K => (He.Fa.free "int").ok K,
   fun K => keepIn K (.ref (He.ga K "_law_source")),
   fun K => (He.Fa.glo "_law_source").ok K,
   fun K => (He.Fa.free "len").ok K,
   fun K => keepIn K (.ref (He.ga K "_law_draw")),
   fun K => (He.Fa.glo "_law_draw").ok K,
   fun K => keepIn K (.ref (He.ga K "_law_number")),
   fun K => (He.Fa.glo "_law_number").ok K] : List (Frag → Bool)) ++
  ([fun K => (He.Fa.free "min").ok K,
   fun K => (He.Fa.free "range").ok K,
   fun K => keepIn K (.ref (He.ga K "part_fault")),
   fun K => (He.Fa.glo "part_fault").ok K,
   fun K => (He.Fa.free "all").ok K,
   fun K => (He.Fa.str "DIGITS" "0123456789").ok K,
   fun K => keepIn K (.ref (He.ga K "quad_fault")),
   fun K => (He.Fa.glo "quad_fault").ok K,
   fun K => keepIn K (.ref (He.ga K "read_quad")),
   fun K => (He.Fa.glo "read_quad").ok K] : List (Frag → Bool)) ++
  ([fun K => keepIn K (.ref (He.ga K "quad_parts")),
   fun K => (He.Fa.glo "quad_parts").ok K,
   fun K => keepIn K (.ref (He.ga K "quad_text")),
   fun K => (He.Fa.glo "quad_text").ok K,
   fun K => keepIn K (.ref (He.ga K "quad_place")),
   fun K => (He.Fa.glo "quad_place").ok K,
   fun K => keepIn K (.ref (He.ga K "has_wrong_quad")),
   fun K => (He.Fa.glo "has_wrong_quad").ok K,
   fun K => keepIn K (.ref (He.ga K "has_wrong_gaps")),
   fun K => (He.Fa.glo "has_wrong_gaps").ok K] : List (Frag → Bool)) ++
  ([fun K => keepIn K (.ref (He.ga K "has_wrong_ends")),
   fun K => (He.Fa.glo "has_wrong_ends").ok K,
   fun K => keepIn K (.ref (He.ga K "hex_groups")),
   fun K => (He.Fa.glo "hex_groups").ok K,
   fun K => keepIn K (.ref (He.ga K "parts_of")),
   fun K => (He.Fa.glo "parts_of").ok K,
   fun K => keepIn K (.ref (He.ga K "has_wrong_count")),
   fun K => (He.Fa.glo "has_wrong_count").ok K,
   fun K => keepIn K (.ref (He.ga K "groups_fault")),
   fun K => (He.Fa.glo "groups_fault").ok K] : List (Frag → Bool)) ++
  ([fun K => (He.Fa.str "HEX" "0123456789abcdef").ok K,
   fun K => keepIn K (.ref (He.ga K "hex_number")),
   fun K => (He.Fa.glo "hex_number").ok K,
   fun K => keepIn K (.ref (He.ga K "read_groups")),
   fun K => (He.Fa.glo "read_groups").ok K,
   fun K => keepIn K (.ref (He.ga K "group_numbers")),
   fun K => (He.Fa.glo "group_numbers").ok K,
   fun K => keepIn K (.ref (He.ga K "longest_run")),
   fun K => (He.Fa.glo "longest_run").ok K,
   fun K => (He.Fa.free "enumerate").ok K] : List (Frag → Bool)) ++
  ([fun K => keepIn K (.ref (He.ga K "groups_text")),
   fun K => (He.Fa.glo "groups_text").ok K,
   fun K => keepIn K (.ref (He.ga K "is_integer")),
   fun K => (He.Fa.glo "is_integer").ok K,
   fun K => (He.Fa.free "isinstance").ok K,
   fun K => (He.Fa.free "bool").ok K,
   fun K => keepIn K (.ref (He.ga K "is_from")),
   fun K => (He.Fa.glo "is_from").ok K,
   fun K => keepIn K (.ref (He.ga K "number_of")),
   fun K => (He.Fa.glo "number_of").ok K] : List (Frag → Bool)) ++
  ([fun K => (He.Fa.free "str").ok K,
   fun K => (He.Fa.int "WIDTH4" 32).ok K,
   fun K => keepIn K (.ref (He.ga K "_law_quad")),
   fun K => (He.Fa.glo "_law_quad").ok K,
   fun K => keepIn K (.ref (He.ga K "_law_groups")),
   fun K => (He.Fa.glo "_law_groups").ok K,
   fun K => keepIn K (.ref (He.ga K "_law_hex")),
   fun K => (He.Fa.glo "_law_hex").ok K,
   fun K => keepIn K (.ref (He.ga K "_law_spelled")),
   fun K => (He.Fa.glo "_law_spelled").ok K] : List (Frag → Bool)) ++
  ([fun K => (He.Fa.glo "Address4").ok K,
   fun K => decide (kitOne K (.type "int") (.ref (He.ga K "Address4")) = some false),
   fun K => (He.Fa.cls "Address4").ok K,
   fun K => (He.Fa.noat "Address4" "number").ok K,
   fun K => decide (kitOne K (.type "str") (.ref (He.ga K "Address4")) = some false),
   fun K => tyB K "Address4",
   fun K => decide (kitOne K (.ref (He.ga K "Address4")) (.ref (He.ga K "Address4")) = some true),
   fun K => (He.Fa.mkr "Address4").ok K,
   fun K => (He.Fa.glo "Address6").ok K,
   fun K => (He.Fa.int "WIDTH6" 128).ok K] : List (Frag → Bool)) ++
  ([fun K => decide (kitOne K (.type "int") (.ref (He.ga K "Address6")) = some false),
   fun K => (He.Fa.cls "Address6").ok K,
   fun K => (He.Fa.noat "Address6" "number").ok K,
   fun K => decide (kitOne K (.type "str") (.ref (He.ga K "Address6")) = some false),
   fun K => tyB K "Address6",
   fun K => decide (kitOne K (.ref (He.ga K "Address6")) (.ref (He.ga K "Address6")) = some true),
   fun K => (He.Fa.mkr "Address6").ok K,
   fun K => (He.Fa.glo "law").ok K,
   fun K => (He.Fa.free "max").ok K,
   fun K => propB K "Address4" "pointer"] : List (Frag → Bool)) ++
  ([fun K => (He.Fa.free "list").ok K,
   fun K => propB K "Address6" "pointer"] : List (Frag → Bool))
theorem tx_of {K : Frag} {h : Heap} {mg : Str → Option Value} (X : K.In h) (G : h.Ns mainGlobals mg) (c : SaysM fb fn K) : Tx K mg where
  d__law_mix := c.def_ 0
  kp__law_mix := c.fact 0
  g__law_mix := He.glo_ok X G (c.fact 1)
  f_int := He.free_ok X G (c.fact 2)
  d__law_source := c.def_ 1
  kp__law_source := c.fact 3
  g__law_source := He.glo_ok X G (c.fact 4)
  f_len := He.free_ok X G (c.fact 5)
  d__law_draw := c.def_ 2
  kp__law_draw := c.fact 6
  g__law_draw := He.glo_ok X G (c.fact 7)
  d__law_number := c.def_ 3
  kp__law_number := c.fact 8
  g__law_number := He.glo_ok X G (c.fact 9)
  f_min := He.free_ok X G (c.fact 10)
  f_range := He.free_ok X G (c.fact 11)
  d_part_fault := c.def_ 4
  kp_part_fault := c.fact 12
  g_part_fault := He.glo_ok X G (c.fact 13)
  f_all := He.free_ok X G (c.fact 14)
  s_DIGITS := He.str_ok X G (c.fact 15)
  d_quad_fault := c.def_ 5
  kp_quad_fault := c.fact 16
  g_quad_fault := He.glo_ok X G (c.fact 17)
  d_read_quad := c.def_ 6
  kp_read_quad := c.fact 18
  g_read_quad := He.glo_ok X G (c.fact 19)
  d_quad_parts := c.def_ 7
  kp_quad_parts := c.fact 20
  g_quad_parts := He.glo_ok X G (c.fact 21)
  d_quad_text := c.def_ 8
  kp_quad_text := c.fact 22
  g_quad_text := He.glo_ok X G (c.fact 23)
  d_quad_place := c.def_ 9
  kp_quad_place := c.fact 24
  g_quad_place := He.glo_ok X G (c.fact 25)
  d_has_wrong_quad := c.def_ 10
  kp_has_wrong_quad := c.fact 26
  g_has_wrong_quad := He.glo_ok X G (c.fact 27)
  d_has_wrong_gaps := c.def_ 11
  kp_has_wrong_gaps := c.fact 28
  g_has_wrong_gaps := He.glo_ok X G (c.fact 29)
  d_has_wrong_ends := c.def_ 12
  kp_has_wrong_ends := c.fact 30
  g_has_wrong_ends := He.glo_ok X G (c.fact 31)
  d_hex_groups := c.def_ 13
  kp_hex_groups := c.fact 32
  g_hex_groups := He.glo_ok X G (c.fact 33)
  d_parts_of := c.def_ 14
  kp_parts_of := c.fact 34
  g_parts_of := He.glo_ok X G (c.fact 35)
  d_has_wrong_count := c.def_ 15
  kp_has_wrong_count := c.fact 36
  g_has_wrong_count := He.glo_ok X G (c.fact 37)
  d_groups_fault := c.def_ 16
  kp_groups_fault := c.fact 38
  g_groups_fault := He.glo_ok X G (c.fact 39)
  s_HEX := He.str_ok X G (c.fact 40)
  d_hex_number := c.def_ 17
  kp_hex_number := c.fact 41
  g_hex_number := He.glo_ok X G (c.fact 42)
  d_read_groups := c.def_ 18
  kp_read_groups := c.fact 43
  g_read_groups := He.glo_ok X G (c.fact 44)
  d_group_numbers := c.def_ 19
  kp_group_numbers := c.fact 45
  g_group_numbers := He.glo_ok X G (c.fact 46)
  d_longest_run := c.def_ 20
  kp_longest_run := c.fact 47
  g_longest_run := He.glo_ok X G (c.fact 48)
  f_enumerate := He.free_ok X G (c.fact 49)
  d_groups_text := c.def_ 21
  kp_groups_text := c.fact 50
  g_groups_text := He.glo_ok X G (c.fact 51)
  d_is_integer := c.def_ 22
  kp_is_integer := c.fact 52
  g_is_integer := He.glo_ok X G (c.fact 53)
  f_isinstance := He.free_ok X G (c.fact 54)
  f_bool := He.free_ok X G (c.fact 55)
  d_is_from := c.def_ 23
  kp_is_from := c.fact 56
  g_is_from := He.glo_ok X G (c.fact 57)
  d_number_of := c.def_ 24
  kp_number_of := c.fact 58
  g_number_of := He.glo_ok X G (c.fact 59)
  f_str := He.free_ok X G (c.fact 60)
  i_WIDTH4 := He.int_ok X G (c.fact 61)
  d__law_quad := c.def_ 25
  kp__law_quad := c.fact 62
  g__law_quad := He.glo_ok X G (c.fact 63)
  d__law_groups := c.def_ 26
  kp__law_groups := c.fact 64
  g__law_groups := He.glo_ok X G (c.fact 65)
  d__law_hex := c.def_ 27
  kp__law_hex := c.fact 66
  g__law_hex := He.glo_ok X G (c.fact 67)
  d__law_spelled := c.def_ 28
  kp__law_spelled := c.fact 68
  g__law_spelled := He.glo_ok X G (c.fact 69)
  dm_Address4____init__ := c.def_ 29
  g_Address4 := He.glo_ok X G (c.fact 70)
  ki_int_Address4 := of_decide_eq_true (c.fact 71)
  c_Address4 := He.cls_ok (c.fact 72)
  na_Address4__number := He.noat_ok (c.fact 73)
  ki_str_Address4 := of_decide_eq_true (c.fact 74)
  ty_Address4 := tyB_ok (c.fact 75)
  ki_Address4_Address4 := of_decide_eq_true (c.fact 76)
  mk_Address4 := He.mkr_ok (c.fact 77)
  dm_Address4____str__ := c.def_ 30
  dm_Address6____init__ := c.def_ 31
  g_Address6 := He.glo_ok X G (c.fact 78)
  i_WIDTH6 := He.int_ok X G (c.fact 79)
  ki_int_Address6 := of_decide_eq_true (c.fact 80)
  c_Address6 := He.cls_ok (c.fact 81)
  na_Address6__number := He.noat_ok (c.fact 82)
  ki_str_Address6 := of_decide_eq_true (c.fact 83)
  ty_Address6 := tyB_ok (c.fact 84)
  ki_Address6_Address6 := of_decide_eq_true (c.fact 85)
  mk_Address6 := He.mkr_ok (c.fact 86)
  dm_Address6____str__ := c.def_ 32
  dm_Address4__pointer := c.def_ 33
  dm_Address6__pointer := c.def_ 34
  d_law := c.def_ 35
  g_law := He.glo_ok X G (c.fact 87)
  f_max := He.free_ok X G (c.fact 88)
  p_Address4__pointer := propB_ok (c.fact 89)
  f_list := He.free_ok X G (c.fact 90)
  p_Address6__pointer := propB_ok (c.fact 91)
abbrev R : PySem.W.OpenRow := PySem.W.OpenLaw.row PySem.Challenge.rw_addressnets_k08_names_for_looking_up
abbrev hk : PySem.W.Hook := hookM 6 fb fn
def ob (s : PySem.W.SharedT) : He.AlD := obsMG 6 fb fn (HandSHeadRun.getT s)
theorem ob_eq (s : PySem.W.SharedT) : ob s = hk.obs s.abs := obsMG_eq (HandSHeadRun.getT_eq s)
def loose : List Str :=
  ([("_wall" : Str),
   ("NetError" : Str),
   ("BadKind" : Str),
   ("BadNumber" : Str),
   ("BadText" : Str),
   ("BadBytes" : Str),
   ("Mixed" : Str),
   ("DIGITS" : Str),
   ("part_fault" : Str),
   ("quad_fault" : Str),
   ("read_quad" : Str),
   ("quad_parts" : Str)] : List Str) ++
  ([("quad_text" : Str),
   ("HEX" : Str),
   ("quad_place" : Str),
   ("has_wrong_quad" : Str),
   ("has_wrong_gaps" : Str),
   ("has_wrong_ends" : Str),
   ("hex_groups" : Str),
   ("parts_of" : Str),
   ("has_wrong_count" : Str),
   ("groups_fault" : Str),
   ("hex_number" : Str),
   ("read_groups" : Str)] : List Str) ++
  ([("group_numbers" : Str),
   ("longest_run" : Str),
   ("groups_text" : Str),
   ("WIDTH4" : Str),
   ("WIDTH6" : Str),
   ("is_integer" : Str),
   ("is_from" : Str),
   ("number_of" : Str),
   ("Address4" : Str),
   ("Address6" : Str),
   ("_law_mix" : Str),
   ("_law_source" : Str)] : List Str) ++
  ([("_law_draw" : Str),
   ("_law_number" : Str),
   ("_law_quad" : Str),
   ("_law_groups" : Str),
   ("_law_hex" : Str),
   ("_law_spelled" : Str)] : List Str)
theorem run (w : World) : HandSHeadRun.RunEq R (PySem.W.view R.prog [48]) hk ob 20000 loose w := by
  intro os
  kernel_rfl
end An
open PySem PySem.W PySem.Calls PyProof.Rows
theorem PySem.Challenge.cw_addressnets_k08_names_for_looking_up_holds : PySem.Challenge.rw_addressnets_k08_names_for_looking_up.Holds := by
  w_on; o_law
  refine HandSHeadRun.head_any (r := OpenLaw.row PySem.Challenge.rw_addressnets_k08_names_for_looking_up) (q := view (OpenLaw.row PySem.Challenge.rw_addressnets_k08_names_for_looking_up).prog [48]) (H := An.hk) (ob := An.ob) (M := 20000) (loose := An.loose) (d := HandSHeadRun.topDef (OpenLaw.row PySem.Challenge.rw_addressnets_k08_names_for_looking_up).prog 48) (kwd := []) An.ob_eq
    (by kernel_rfl) (fun s => by kernel_rfl) An.run (by kernel_rfl) (by kernel_rfl) (by kernel_rfl) (by rfl) (by first | assumption | decide +kernel) (by decide +kernel) ⟨rfl, rfl, rfl, rfl, rfl, by decide +kernel⟩ ?hw ?hc
  case hw => w_witness2
  case hc =>
    refine L2.walk_ofE (l := PySem.Challenge.rw_addressnets_k08_names_for_looking_up) (n := 63) (k := 9) (x := "_law_script") (CX := L2.CX0) rfl (by decide) (by kernel_rfl) ⟨rfl, by decide, by decide⟩ ?F (fun _ _ _ _ z => z)
    intro w mg fa h Y G hmg0
    obtain ⟨K, KX, c⟩ := Y
    have T := An.tx_of KX G c
    have hmg : mg ("law" : PySem.Str) = some (.ref fa) := by
      have e : (HandSHeadRun.topDef (OpenLaw.row PySem.Challenge.rw_addressnets_k08_names_for_looking_up).prog 48).name = ("law" : PySem.Str) := by kernel_rfl
      rw [← e]
      exact hmg0
    have e := hmg.symm.trans T.g_law
    cases e
    obtain ⟨fd, hb, hF⟩ := An.ok_law (P := (PySem.Challenge.rw_addressnets_k08_names_for_looking_up).prog) (w := w) T
    exact ⟨K, fd, An.sp_law K, KX, hb, fun H a ns hl _ hS => ⟨a, ns, rfl, hS, hl, fun _ => rfl⟩, fun base _ _ => hF base⟩
#print axioms PySem.Challenge.cw_addressnets_k08_names_for_looking_up_holds
