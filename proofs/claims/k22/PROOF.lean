import PyProof.Rows.All
import Wide.All
import OpenK.AllK
import Wide.FinOn
import KE.RegKCallOwn
import KE.KFmtOwn
import HandS.ForMost
import HandS.Exc
import HandS.TryOnly
import HandS.ExcOwn
import HandS.WordsExc
import HandS.Defaults
import HandS.Flow
import HandS.Wide
import HandS.WideBits
import HandS.Star
import HandS.Property
import HandS.ClsMeth
import HandS.SlotsOwn
import HandS.IsInst
import HandS.FStr
import HandS.StrMore
import HandS.Evl
import HandS.Walk
import HandS.Style
import HandS.Head0
import HandS.Head1
import HandS.Head2
import HandS.HeadEnd
import HandS.HeadHook1
import HandS.HeadHook2
import HandS.HeadHook3
import HandS.HeadNt
import KE.KRevSl
import HandS.MakeKw
import HandS.MakeKwOnly
import HandS.ToBytes
import HandS.TupAny
import HandS.TupLe
import HandS.Bytes
import HandS.ExcInit
import HandS.ExcField
import HandS.ExcIs
import HandS.Lambda
import HandS.Small
import HandS.Sort
import HandS.SortOrd
import HandS.SortRule
import HandS.SortInts
import HandS.SortKw
import HandS.Set
import HandS.SetBool
import HandS.Strs
import HandS.SetKeys
import HandS.TupSets
import HandS.GenOver
import HandS.GenBody
import HandS.GenYield
import HandS.GenCall
import HandS.DictComp
import HandS.DictTup
import HandS.DictEq
import HandS.Conv
import HandS.More
import HandS.TupLen
import HandS.ListItems
import HandS.IterVal
import HandS.Zip
import HandS.Deep
import HandS.OwnEq
import HandS.EndTab
import KE.KExcIs
import KE.KOpsOwn
import HandS.ExcValue
import PySem.Challenge.RW_addressnets_k22_errors_by_themselves
set_option Elab.async false
set_option linter.all false
set_option maxRecDepth 100000
set_option maxHeartbeats 4000000
set_option pp.deepTerms false
set_option pp.deepTerms.threshold 5
set_option pp.maxSteps 1500

namespace An
open PySem PySem.W PySem.Spec PyProof.Rows L2 TL Bits
def obsM (fb : List (Frag → Bool)) (fn : List He5.DefA) (K : Frag) : He.AlD := ((fb.all fun f => f K) && fn.all fun d => d.ok K, fn.map fun d => He5.fnA K (d.at_ K))
def SaysM (fb : List (Frag → Bool)) (fn : List He5.DefA) (K : Frag) : Prop := obsM fb fn K = He5.valA fn
def addA {α : Type} : List Addr → Nat → List Addr → (Nat → List Addr → α) → α
  | [], seen, out, k => k seen out
  | b :: r, seen, out, k => HandSHeadRun.frNat b fun b => match Nat.beq (Nat.land 1 (Nat.shiftRight seen b)) 0 with
    | true => HandSHeadRun.frNat (Nat.lor seen (Nat.shiftLeft 1 b)) fun seen => addA r seen (b :: out) k
    | false => addA r seen out k
def expA {α : Type} (g : Addr → Option Obj) : List Addr → Nat → List Addr → (Nat → List Addr → α) → α
  | [], seen, out, k => k seen out
  | a :: r, seen, out, k => match g a with
    | some o => addA (He.refsD o) seen out fun seen out => expA g r seen out k
    | none => expA g r seen out k
def reachA (g : Addr → Option Obj) : Nat → List Addr → Nat → List Addr
  | 0, fr, _ => fr
  | n + 1, fr, seen => fr ++ expA g fr seen [] fun seen out => reachA g n out seen
def asB (g : Addr → Option Obj) (n : Nat) : List Addr := reachA g n [mainGlobals] (Nat.shiftLeft 1 mainGlobals) ++ [cStatics]
def frK {α : Type} (g : Addr → Option Obj) : List Addr → (Frag → α) → α
  | [], k => k []
  | a :: r, k => match g a with
    | some o => frK g r fun K => k ((a, o) :: K)
    | none => frK g r k
theorem frK_eq {α : Type} (g : Addr → Option Obj) : ∀ (as : List Addr) (k : Frag → α), frK g as k = k (He.frG g as)
  | [], _ => rfl
  | a :: r, k => by
    unfold frK He.frG
    rw [List.filterMap_cons]
    cases g a with
    | none => exact frK_eq g r k
    | some o => exact frK_eq g r _
def obsMG (n : Nat) (fb : List (Frag → Bool)) (fn : List He5.DefA) (g : Addr → Option Obj) : He.AlD := frK g (asB g n) (obsM fb fn)
def hookM (n : Nat) (fb : List (Frag → Bool)) (fn : List He5.DefA) : PySem.W.Hook where
  α := He.AlD
  obs := fun s => obsMG n fb fn s.heap.get?
  val := fun _ => He5.valA fn
  says := fun _ h => ∃ K : Frag, K.In h ∧ SaysM fb fn K
  of := fun _ _ e => ⟨_, He.frG_in, (frK_eq _ _ _).symm.trans e⟩
  keeps := fun _ _ _ ⟨K, hK, c⟩ k => ⟨K, Frag.In.keeps hK k, c⟩
theorem obsMG_eq {n : Nat} {fb : List (Frag → Bool)} {fn : List He5.DefA} {g : Addr → Option Obj} {s : Shared} (h : ∀ a, g a = s.heap.get? a) : obsMG n fb fn g = (hookM n fb fn).obs s := by
  have e : g = s.heap.get? := funext h
  rw [e] <;> rfl
section
variable {fb : List (Frag → Bool)} {fn : List He5.DefA} {K : Frag}
theorem SaysM.fact (c : SaysM fb fn K) (i : Nat) {f : Frag → Bool} (h : fb[i]? = some f := by rfl) : f K = true := by
  have c1 := (He.ba (show ((fb.all fun f => f K) && fn.all fun d => d.ok K) = true from congrArg (fun z : He.AlD => z.1) c)).1
  exact List.all_eq_true.mp c1 f (List.mem_of_getElem? h)
theorem SaysM.def_ (c : SaysM fb fn K) (i : Nat) {d : He5.DefA} (h : fn[i]? = some d := by rfl) : ∃ fd, L2.FunD K d.name d.qual d.params d.body d.scope (d.dvs K) (d.kws K) (d.at_ K) fd := by
  have c2 := (He.ba (show ((fb.all fun f => f K) && fn.all fun d => d.ok K) = true from congrArg (fun z : He.AlD => z.1) c)).2
  have e : fn.map (fun d => He5.fnA K (d.at_ K)) = fn.map He5.DefA.val := congrArg (fun z : He.AlD => z.2) c
  have e2 : (fn.map fun d => He5.fnA K (d.at_ K))[i]? = (fn.map He5.DefA.val)[i]? := by rw [e]
  rw [List.getElem?_map, List.getElem?_map, h] at e2
  exact He5.DefA.funD (Option.some.inj e2) (List.all_eq_true.mp c2 d (List.mem_of_getElem? h))
end
def dG (x : Str) (st : Stmt) : He5.DefA := ⟨fun K => He.ga K x, x, x, defArgs st, defBody st, defScope st, [], []⟩
def dM (c m q : Str) (st : Stmt) : He5.DefA := ⟨fun K => He.ma K (He.ga K c) m, m, q, defArgs st, defBody st, defScope st, [], []⟩
abbrev FnS (K : Frag) (x q : Str) (st : Stmt) (f : Addr) : Prop := ∃ fd, FunD K x q (defArgs st) (defBody st) (defScope st) [] [] f fd
abbrev Wc (P : Program) (w : World) (K : Frag) (mg : Str → Option Value) (base : Heap) (k : Nat) (f : Addr) (sp : Sp) : Prop := FnR P w K mg base (L2.CX P w) k f sp
section
variable {P : Program} {w : World} {K : Frag} {mg : Str → Option Value} {base : Heap}
theorem fnr {x q : Str} {st : Stmt} {f : Addr} {N ps : List Str} {k : Nat} {sp : Sp} (F : FnS K x q st f) (S : FnScope N ps (defScope st)) (len : ∀ vs H Q E, sp vs H Q E → vs.length = ps.length)
    (hb : ∀ (kV doc pm : Value) (an : Option Addr) (cdv ct : Value) (us : List Value), us.length = ps.length → bindArgs (PySem.W.fnOf x q (defArgs st) (defBody st) (defScope st) .none kV doc pm an cdv ct) ⟨us, []⟩ = pure (ps.zip us))
    (hbody : ∀ (cdv : Value) (A : Around) (outer : List Env) (s : Shared) (H : Hp) (vs : List V) (Q : VK) (E : XK), Room k (A.deeper (envOfC q (defScope st) s.heap.objs.size f cdv)) → sp vs H Q E →
      ∃ t, PSs (cxOf (L2.CX P w) P w K mg base N q (defScope st) f cdv A outer s H E) (defBody st) t ∧ t { nx := fun _ H' => Q .non H', rt := Q } (start N vs) H) : Wc P w K mg base (k + 1) f sp := by
  obtain ⟨fd, F⟩ := F
  have G := (F.ok (CX := L2.CX P w) (P := P) (w := w) (mg := mg) (base := base) S len hbody).raw (F.bindsN hb) .nil
  exact G.imp fun vs H Q E h => by rw [List.append_nil]; exact h
theorem Wc.or {k : Nat} {f : Addr} {sp sp' : Sp} (F : Wc P w K mg base k f sp) (G : Wc P w K mg base k f sp') : Wc P w K mg base k f (fun vs H Q E => sp vs H Q E ∨ sp' vs H Q E) :=
  fun A outer s H us vs Q E hr e0 r hs => hs.elim (F A outer s H us vs Q E hr e0 r) (G A outer s H us vs Q E hr e0 r)
end
structure FnG (P : Program) (w : World) (K : Frag) (mg : Str → Option Value) (base : Heap) (k : Nat) (x : Str) (sp : Sp) : Prop where
  ok : Wc P w K mg base k (He.ga K x) sp
  kp : PySem.W.keepIn K (.ref (He.ga K x)) = true
  gl : mg x = some (.ref (He.ga K x))
section
variable {X : Cx} {k : Nat} {f C : Addr} {sp : Sp} {E : XK} {x m : Str} {p pos apos : Pos} {e o : Expr} {es : List Expr} {ta : TE} {t : TA}
theorem pe_gi {i : Int} (hm : ∃ t, X.mg x = some (.int i t)) (hg : Gl X x := by rfl) (hd : (x == ("__debug__" : Str)) = false := by decide) : PE X (.Name x pos) (tC (.int i)) := by
  obtain ⟨t, hm⟩ := hm
  exact pe_glob hg hm ⟨_, rfl⟩ hd
theorem pe_gs {z : Str} (hm : ∃ t, X.mg x = some (.str z t)) (hg : Gl X x := by rfl) (hd : (x == ("__debug__" : Str)) = false := by decide) : PE X (.Name x pos) (tC (.str z)) := by
  obtain ⟨t, hm⟩ := hm
  exact pe_glob hg hm ⟨_, rfl⟩ hd
end
theorem bb_isinstance : bootBuiltins "isinstance" = some (.builtin "isinstance") := by decide +kernel
theorem bb_len : bootBuiltins "len" = some (.builtin "len") := by decide +kernel
theorem bb_max : bootBuiltins "max" = some (.builtin "max") := by decide +kernel
theorem bb_min : bootBuiltins "min" = some (.builtin "min") := by decide +kernel
theorem bb_all : bootBuiltins "all" = some (.builtin "all") := by decide +kernel
theorem bb_repr : bootBuiltins "repr" = some (.builtin "repr") := by decide +kernel
theorem bb_ValueError : bootBuiltins "ValueError" = some (.type "ValueError") := by decide +kernel
theorem bb_int : bootBuiltins "int" = some (.type "int") := by decide +kernel
theorem bb_str : bootBuiltins "str" = some (.type "str") := by decide +kernel
theorem bb_bool : bootBuiltins "bool" = some (.type "bool") := by decide +kernel
theorem bb_bytes : bootBuiltins "bytes" = some (.type "bytes") := by decide +kernel
end An

namespace An
open PySem PySem.W PySem.Spec PyProof.Rows L2 TL Bits
section
variable {X : Cx} {k : Nat} {C p g f : Addr} {sp : Sp} {E : XK} {x m : Str} {pos apos : Pos} {e o : Expr} {es : List Expr} {ta : TE} {t : TA}
end
section
variable {X : Cx}
def rCatL (K : Frag) : R2 := fun x y H Q => ∃ l b xs zs, x = .ref l ∧ y = .ref b ∧ SqL K H l xs ∧ SqL K H b zs ∧ xs.length + zs.length ≤ sizeLine ∧ ∀ p, H p = none → Q (.ref p) (upd H p (.lst (xs ++ zs)))
theorem op_catL : OpR X (binaryOp .Add) (rCatL X.K) := by
  intro pins s σ H x y v u Q I rx ry h
  obtain ⟨l, b, xs, zs, rfl, rfl, h1, h2, hz, q⟩ := h
  cases rx; cases ry
  obtain ⟨i1, r1, p1, _⟩ := I.list h1
  obtain ⟨i2, r2, p2, _⟩ := I.list h2
  obtain ⟨⟨c1, d1, t1, l1⟩, n1, e1, a1, b1, g1⟩ := p1
  obtain ⟨⟨c2, d2, t2, l2⟩, n2, e2, a2, b2, g2⟩ := p2
  dsimp only at a1 b1 g1 a2 b2 g2
  subst a1 b1 g1 a2 b2 g2
  have z1 := r1.length
  have z2 := r2.length
  refine concat_meets ⟨_, e1, rfl⟩ ⟨_, e2, rfl⟩ noFill_list_add seq_list_add PySem.F.slot_list_add PySem.F.entry_list_add (PySem.F.args_list_add_2 _ _) (list_addW l b i1.toArray i2.toArray n1 n2 none none l1 l2 (by rw [List.size_toArray, List.size_toArray]; omega)) ⟨e1, e2, ?_⟩
  have ea : i1.toArray ++ i2.toArray = (i1 ++ i2).toArray := by simp
  rw [ea]
  exact ⟨.ref _, _, I.lnew (t' := s.toks) (r1.append r2) (by rw [List.length_append]; omega), rfl, q _ I.fresh⟩
end
theorem same_new {H H' : Hp} {p : Addr} {o : HO} (e : Same H H') (hp : H' p = none) : Same H (upd H' p o) := fun b u h => by
  rw [upd_ne (ne_of_none (e b u h) hp)]
  exact e b u h
structure TyI (K : Frag) (C : Addr) : Prop where
  cl : Cls K C
  ha : findIn K (.ref C) "__class__" = some (some (.builtin "object.__class__"))
  hn : specialIn K (.builtin "object.__class__") "__get__" = some (some (.builtin "getset_descriptor.__get__"))
  htk : takesIn K (.builtin "object.__class__") = some true
  hm : mroIn K C (.type "object") = some true
def tyB (K : Frag) (x : Str) : Bool := (He.Fa.cls x).ok K && (He.eqO (findIn K (.ref (He.ga K x)) "__class__") (some (some (.builtin "object.__class__"))) &&
  (He.eqO (specialIn K (.builtin "object.__class__") "__get__") (some (some (.builtin "getset_descriptor.__get__"))) && (decide (takesIn K (.builtin "object.__class__") = some true) && decide (mroIn K (He.ga K x) (.type "object") = some true))))
theorem tyB_ok {K : Frag} {x : Str} (h : tyB K x = true) : TyI K (He.ga K x) := by
  obtain ⟨h1, h⟩ := He.ba h
  obtain ⟨h2, h⟩ := He.ba h
  obtain ⟨h3, h⟩ := He.ba h
  obtain ⟨h4, h5⟩ := He.ba h
  exact ⟨He.cls_ok h1, He.eqO_ok h2, He.eqO_ok h3, of_decide_eq_true h4, of_decide_eq_true h5⟩
theorem TyI.tx {K : Frag} {C a dx : Addr} {H : Hp} {fs : List (Str × V)} (t : TyI K C) (e : H a = some (.ins C dx fs)) : TyX K H (.ref a) (.ref C) := .base (.ins e t.cl t.ha t.hn t.htk t.hm)
def Srcs (H : Hp) (a : Addr) : Prop := ∃ x y z : Int, H a = some (.lst [.int x, .int y, .int z])
def But (a : Addr) (H H' : Hp) : Prop := ∀ c o, H c = some o → c ≠ a → H' c = some o
theorem But.refl (a : Addr) (H : Hp) : But a H H := fun _ _ h _ => h
theorem But.trans {a : Addr} {H H1 H2 : Hp} (e : But a H H1) (f : But a H1 H2) : But a H H2 := fun c o h n => f c o (e c o h n) n
theorem But.same {a : Addr} {H H1 H2 : Hp} (e : But a H H1) (f : Same H1 H2) : But a H H2 := fun c o h n => f c o (e c o h n)
theorem But.upd {a : Addr} {H H1 : Hp} {o : HO} (e : But a H H1) : But a H (upd H1 a o) := fun c u h n => by rw [upd_ne n]; exact e c u h n
theorem But.new {a p : Addr} {H H1 : Hp} {o : HO} (e : But a H H1) (hp : H1 p = none) : But a H (L2.upd H1 p o) := e.same (same_new (Same.refl _) hp)
theorem Srcs.same {H H' : Hp} {a : Addr} (h : Srcs H a) (e : Same H H') : Srcs H' a := by
  obtain ⟨x, y, z, h⟩ := h
  exact ⟨x, y, z, e _ _ h⟩
theorem Srcs.new {H : Hp} {a p : Addr} {o : HO} (h : Srcs H a) (hp : H p = none) : Srcs (L2.upd H p o) a := h.same (same_new (Same.refl _) hp)
theorem Srcs.ne {H : Hp} {a p : Addr} (h : Srcs H a) (hp : H p = none) : p ≠ a := fun z => by
  obtain ⟨x, y, w, h⟩ := h
  rw [← z, hp] at h
  cases h
theorem Srcs.neO {H : Hp} {a p : Addr} {o : HO} (h : Srcs H a) (hp : H p = some o) (no : ∀ xs, o ≠ .lst xs) : p ≠ a := fun z => by
  obtain ⟨x, y, w, h⟩ := h
  rw [← z, hp] at h
  exact no _ (Option.some.inj h)
theorem fa_nil {α : Type} {P : α → Prop} : ∀ v ∈ ([] : List α), P v := fun _ h => by cases h
theorem fa_cons {α : Type} {P : α → Prop} {x : α} {xs : List α} (h : P x) (t : ∀ v ∈ xs, P v) : ∀ v ∈ x :: xs, P v := fun v hv => by
  rcases List.mem_cons.mp hv with e | e
  · rw [e]; exact h
  · exact t v e
theorem e8 : (2 : Int) ^ Int.toNat 8 = 256 := by decide +kernel
section
variable {J : It} {G : Hp → Prop} {Y : Nat → Hp → V → Hp → Prop} {α : Type}
end
structure FnC (P : Program) (w : World) (K : Frag) (mg : Str → Option Value) (base : Heap) (k : Nat) (x : Str) (sp : Sp) : Prop where
  ex : ∃ (f : Addr) (si : Sp), Mk K (He.ga K x) f ∧ Wc P w K mg base k f si ∧ ∀ vs H Q E, sp vs H Q E → ∀ a dx : Addr, H a = none → H dx = none → dx ≠ a →
    si (.ref a :: vs) (upd (upd H dx (.own a)) a (.ins (He.ga K x) dx [])) (fun v H2 => v = .non ∧ Q (.ref a) H2) E
  gl : mg x = some (.ref (He.ga K x))
section
variable {X : Cx} {k : Nat} {sp : Sp} {E : XK} {x : Str} {p pos : Pos} {e : Expr} {es : List Expr} {t : TA}
end
theorem and255 {x : Int} (h : 0 ≤ x) : Builtin.bitAnd x 255 = x % 256 := bitAnd_mask 8 h
theorem and65535 {x : Int} (h : 0 ≤ x) : Builtin.bitAnd x 65535 = x % 65536 := bitAnd_mask 16 h
theorem log_small {i : Int} (h0 : 0 ≤ i) (h1 : i < 2 ^ 200) : i.natAbs.log2 < 1920 := by
  by_cases z : i.natAbs = 0
  · rw [z]; decide
  · refine (Nat.log2_lt z).mpr (Nat.lt_of_lt_of_le (m := 2 ^ 200) ?_ (Nat.pow_le_pow_right (by decide) (by decide)))
    have e : (i.natAbs : Int) = i := by omega
    have e2 : ((2 ^ 200 : Nat) : Int) = 2 ^ 200 := by decide +kernel
    omega
theorem But.keep {a : Addr} {H H' : Hp} {p : Addr} {o : HO} (e : But a H H') (S : Srcs H a) (h : H p = some o) (no : ∀ xs, o ≠ .lst xs) : H' p = some o := e p o h (S.neO h no)
section
variable {X : Cx}
end
def New (H : Hp) (o : HO) (Q : VK) : Prop := ∀ (p : Addr) (H' : Hp), Same H H' → H p = none → H' p = some o → Q (.ref p) H'
theorem New.at {H : Hp} {o : HO} {Q : VK} (n : New H o Q) : ∀ p, H p = none → Q (.ref p) (upd H p o) := fun p np => n p _ (same_new (Same.refl _) np) np upd_same
section
variable {X : Cx} {es : List Expr} {t : TA} {pos : Pos}
def rSlA (K : Frag) : V → Option Int → Option Int → Hp → VK → Prop := fun x lo hi H Q => ∃ a xs, x = .ref a ∧ SqL K H a xs ∧ New H (.lst (cutV xs lo hi)) Q
end
theorem fa_app {α : Type} {P : α → Prop} {xs ys : List α} (h : ∀ v ∈ xs, P v) (t : ∀ v ∈ ys, P v) : ∀ v ∈ xs ++ ys, P v := fun v hv => (List.mem_append.mp hv).elim (h v) (t v)
theorem fa_map {α β : Type} {P : β → Prop} {f : α → β} {xs : List α} (h : ∀ c ∈ xs, P (f c)) : ∀ v ∈ xs.map f, P v := fun v hv => by
  obtain ⟨c, hc, rfl⟩ := List.mem_map.mp hv
  exact h c hc
section
variable {X : Cx}
end
end An

namespace An
open PySem PySem.W PySem.Spec PyProof.Rows L2 TL Bits
section
variable {X : Cx} {k : Nat} {C g : Addr} {sp : Sp} {E : XK}
theorem ifBound_objNe {M : Model} {A : Around} {E : Value → Shared → Prop} {s : Shared} {K : Frag} {x C : Addr} {ox : Obj} {od : Option Obj} {args : List Value} {Q : Option Value → Shared → Prop} (X : K.In s.heap) (I : InstAt s.heap x ox C od) (hs : findIn K (.ref C) "__ne__" = some (some (.builtin "object.__ne__")))
    (h : wpAny M A (call (.builtin "object.__ne__") (.ref x :: args)) (fun v => Q (some v)) E s) : wpAny M A (callSpecialIfBound? (.ref x) "__ne__" args) Q E s := by
  simp only [callSpecialIfBound?, bindSpecialIfBound?]
  refine wpAny_holding (wpAny_bind (wpAny_bind (wpAny_bind (I.type.here ((looks_findIn X hs).here ?_)))))
  refine wpAny_bind (wpAny_askSetting (wpAny_ite ?_))
  have fin : wpAny M A (call (.builtin "object.__ne__") ([.ref x] ++ args) >>= fun v => pure (some v)) Q E s := wpAny_bind (wpAny_mono h (fun v s' h' => wpAny_pure h') fun _ _ h' => h')
  split
  · exact wpAny_bind (wpAny_of_eq (F.cmp_object.ne.bind _) (wpAny_pure (by exact fin)))
  · exact wpAny_tryCatch (wpAny_bind (wpAny_of_eq (F.cmp_object.ne.bind _) (wpAny_pure (by exact fin))))
end
end An

namespace An
open PySem PySem.W PySem.Spec PyProof.Rows L2 TL Bits
def srcP (a : Addr) : Heap → Prop := fun h => ∃ (x y z : Int) (t u v : Tok) (n : Nat), h.get? a = some { cls := .type "list", data := .seq [Value.int x t, .int y u, .int z v].toArray n }
def Src (H : Hp) (a : Addr) : Prop := H a = some (.ext (srcP a))
theorem Src.same {H H' : Hp} {a : Addr} (h : Src H a) (e : Same H H') : Src H' a := e _ _ h
theorem srcP_keep (a : Addr) : ∀ h1 h2 : Heap, srcP a h1 → (∀ o, h1.get? a = some o → h2.get? a = some o) → srcP a h2 := fun h1 h2 ⟨x, y, z, t, u, v, n, e⟩ k => ⟨x, y, z, t, u, v, n, k _ e⟩
section
variable {X : Cx} {es : List Expr} {t : TA} {pos : Pos}
def rIxSrc : R2 := fun x y H Q => ∃ (p : Addr) (i : Int), x = .ref p ∧ y = .int i ∧ Src H p ∧ (0 ≤ i ∧ i < 3) ∧ ∀ k : Int, Q (.int k) H
theorem x_src : IxR X rIxSrc := by
  intro value slice pins s σ H x y v u Q I rx ry h hs
  obtain ⟨p, i, rfl, rfl, hS, ⟨i0, i3⟩, q⟩ := h
  cases rx
  obtain ⟨t, rfl⟩ := ry
  obtain ⟨⟨x, y, z, t1, t2, t3, n, ho⟩, _, _⟩ := I.hok p _ hS
  have pl : PlainL s.heap p [Value.int x t1, .int y t2, .int z t3].toArray := ⟨_, n, ho, rfl, rfl, rfl⟩
  obtain ⟨k, t4, hk⟩ : ∃ (k : Int) (t4 : Tok), [Value.int x t1, .int y t2, .int z t3][i.toNat]? = some (Value.int k t4) := by
    have : i = 0 ∨ i = 1 ∨ i = 2 := by omega
    rcases this with rfl | rfl | rfl
    · exact ⟨_, _, rfl⟩
    · exact ⟨_, _, rfl⟩
    · exact ⟨_, _, rfl⟩
  have fin : EP X pins σ Q (Value.int k t4) s := ⟨.int k, H, I, ⟨_, rfl⟩, q k⟩
  exact item_listR pl.isList i0 (by omega) (by simpa using hk) fin hs
def rSetSrc : V → V → V → Hp → (Hp → Prop) → Prop := fun o i v H Q => ∃ (p : Addr) (k j : Int), o = .ref p ∧ i = .int k ∧ v = .int j ∧ Src H p ∧ (0 ≤ k ∧ k < 3) ∧ Q H
theorem set_src : PSet X rSetSrc := by
  intro pins s σ H o i v ov iv u Q I ro ri rv h
  obtain ⟨p, k, j, rfl, rfl, rfl, hS, ⟨k0, k3⟩, q⟩ := h
  cases ro
  obtain ⟨t, rfl⟩ := ri
  obtain ⟨t', rfl⟩ := rv
  obtain ⟨⟨x, y, z, t1, t2, t3, n, ho⟩, _, _⟩ := I.hok p _ hS
  have hf : ∃ (x' y' z' : Int) (u1 u2 u3 : Tok), [Value.int x t1, .int y t2, .int z t3].set k.toNat (Value.int j t') = [Value.int x' u1, .int y' u2, .int z' u3] := by
    have : k = 0 ∨ k = 1 ∨ k = 2 := by omega
    rcases this with rfl | rfl | rfl
    · exact ⟨_, _, _, _, _, _, rfl⟩
    · exact ⟨_, _, _, _, _, _, rfl⟩
    · exact ⟨_, _, _, _, _, _, rfl⟩
  obtain ⟨x', y', z', u1, u2, u3, hf⟩ := hf
  have hm := mapSeq_set [Value.int x t1, .int y t2, .int z t3] n k.toNat (Value.int j t')
  rw [hf] at hm
  have e : (s.heap.update p (Obj.mapSeq (·.setIfInBounds k.toNat (Value.int j t')))).get? p = some { cls := .type "list", data := .seq [Value.int x' u1, .int y' u2, .int z' u3].toArray n } := by
    rw [Heap.get?_update_self _ ho (by rw [hm] <;> rfl), hm]
  have I' : Inv X pins σ (upd H p (.ext (srcP p))) { s with heap := s.heap.update p (Obj.mapSeq (·.setIfInBounds k.toNat (Value.int j t'))), toks := s.toks } := by
    refine I.write (x := p) (e := p) (by rw [hS]; trivial) (.inl rfl) (fun b u hb q => (Heap.get?_update_other _ _ (Ne.symm hb)).trans q) ⟨_, e⟩ ?_
    exact ⟨⟨x', y', z', u1, u2, u3, n, e⟩, ⟨_, e⟩, srcP_keep _⟩
  have hH : upd H p (.ext (srcP p)) = H := by
    funext b
    unfold upd
    split
    · rename_i hb; rw [hb]; exact hS.symm
    · rfl
  rw [hH] at I'
  exact PySem.W.ki_setAt ho k0 (by omega) (by show k < 3; exact k3) ⟨_, I', q⟩
end
def srcQ (a : Addr) : Heap → Prop := fun h => ∃ (its : List Value) (n : Nat), (its.length = 1 ∨ its.length = 3) ∧ (∀ v ∈ its, ∃ (x : Int) (t : Tok), v = Value.int x t) ∧ h.get? a = some { cls := .type "list", data := .seq its.toArray n }
def SrcC (H : Hp) (a : Addr) : Prop := H a = some (.ext (srcQ a))
section
variable {X : Cx} {pins : List (Addr × Obj)} {σ : L2.St} {H : Hp} {s : Shared} {a : Addr}
end
end An

namespace An
open PySem PySem.W PySem.Spec PyProof.Rows L2 TL Bits
def Sml (H H' : Hp) : Prop := ∀ b o, H b = some o → (∀ xs, o ≠ .lst xs) → H' b = some o
theorem Sml.refl (H : Hp) : Sml H H := fun _ _ h _ => h
theorem Sml.trans {H H1 H2 : Hp} (a : Sml H H1) (b : Sml H1 H2) : Sml H H2 := fun c o h n => b c o (a c o h n) n
theorem Same.sml {H H1 : Hp} (a : Same H H1) : Sml H H1 := fun c o h _ => a c o h
theorem Src.sml {H H' : Hp} {a : Addr} (h : Src H a) (e : Sml H H') : Src H' a := e _ _ h (fun _ z => by cases z)
section
variable {X : Cx}
end
section
variable {g : TG} {tb : TS} {D : Ends} {σ : L2.St} {H : Hp} {K : Frag}
end
end An

namespace An
open PySem PySem.W PySem.Spec PyProof.Rows L2 TL Bits
section
variable {X : Cx}
end
section
variable {P : Program} {w : World} {K : Frag} {mg : Str → Option Value} {base : Heap}
theorem Wc.up {k j : Nat} {f : Addr} {sp : Sp} (F : Wc P w K mg base k f sp) (h : k ≤ j) : Wc P w K mg base j f sp := fun A outer s H us vs Q E hr e0 r hs => F A outer s H us vs Q E (hr.mono h) e0 r hs
theorem FnG.or {i j k : Nat} {x : Str} {sp sp' : Sp} (F : FnG P w K mg base i x sp) (G : FnG P w K mg base j x sp') (hi : i ≤ k := by decide) (hj : j ≤ k := by decide) : FnG P w K mg base k x (fun vs H Q E => sp vs H Q E ∨ sp' vs H Q E) :=
  ⟨(F.ok.up hi).or (G.ok.up hj), F.kp, F.gl⟩
theorem FnC.up {k j : Nat} {x : Str} {sp : Sp} (F : FnC P w K mg base k x sp) (h : k ≤ j) : FnC P w K mg base j x sp := by
  obtain ⟨⟨f, si, M, G, im⟩, gl⟩ := F
  exact ⟨⟨f, si, M, G.up h, im⟩, gl⟩
end
section
variable {g : TG} {tb : TS} {tt : TT} {te : TE} {K : Frag}
end
end An
namespace An
open PySem PySem.W PySem.Spec PyProof.Rows L2 TL Bits
end An
namespace An
open PySem PySem.W PySem.Spec PyProof.Rows L2 TL Bits
end An
namespace An
open PySem PySem.W PySem.Spec PyProof.Rows L2 TL Bits
section
variable {g : TG} {tb : TS} {tt : TT} {te : TE} {K : Frag}
end
end An

namespace An
open PySem PySem.W PySem.Spec PyProof.Rows L2 TL Bits
section
variable {prog : Program} {w : World} {M : Model} {A : Around} {E : Value → Shared → Prop} {s : Shared} {x : Int} {k : Nat} {t u v : Tok}
theorem grownW {n : Nat} {Q : Value → Shared → Prop} (hn : n < 2 ^ 8000) (h : Q (.int (n : Int) s.toks) { s with toks := s.toks + 1 }) : wpAny M A (mkIntGrown (n : Int)) Q E s := by
  have hl : ¬ ((n : Int).natAbs.log2 ≥ bitsLine) := by
    have hb : bitsLine = 134217728 := by first | rfl | decide
    rw [Int.natAbs_natCast, hb]
    by_cases hz : n = 0
    · subst hz; decide
    · have h1 := (Nat.log2_lt hz).mpr hn; omega
  unfold mkIntGrown
  rw [if_neg hl]; exact wpAny_mkInt h
theorem tree_bigW {b : Array UInt8} {P : Fin → Shared → Prop} (hl : b.size ≤ 1000) (h : P (.done (.ret (.int (KFB.value (KBw.bInts b)) s.toks))) { s with toks := s.toks + 1 }) :
    wpAny M A (Builtin.«int.from_bytes» ⟨[.type "int", .bytes b t, .str (PySem.Str.ofString "big") u], []⟩) P E s := by
  have hv : ((b.toList.foldl (fun (acc : Nat) (c : UInt8) => acc * 256 + c.toNat) 0 : Nat) : Int) = KFB.value (KBw.bInts b) := KFB.fold_cast b.toList 0
  have hn : b.toList.foldl (fun (acc : Nat) (c : UInt8) => acc * 256 + c.toNat) 0 < 2 ^ 8000 := by
    have h1 := KFB.fold_lt b.toList 0
    rw [Nat.zero_add, Nat.one_mul, Array.length_toList] at h1
    refine Nat.lt_of_lt_of_le h1 ?_
    have e : (256 : Nat) = 2 ^ 8 := by decide
    rw [e, ← Nat.pow_mul]
    exact Nat.pow_le_pow_right (by decide) (by omega)
  unfold Builtin.«int.from_bytes»
  refine wpAny_bind (wpAny_of_eq (a := true) KFB.type_int (KFB.if_not rfl (wpAny_bind (wpAny_of_eq (a := true) F.conv_sub_int (KFB.if_not rfl ?_)))))
  refine wpAny_bind (wpAny_of_eq (a := [some (.bytes b t), some (.str (PySem.Str.ofString "big") u), (none : Option Value)]) (by kernel_rfl) ?_)
  refine wpAny_bind (wpAny_of_eq (a := PySem.Str.ofString "big") (by kernel_rfl) (wpAny_bind (wpAny_of_eq (a := false) rfl ?_)))
  refine wpAny_bind (wpAny_of_eq (a := false) (by kernel_rfl) (wpAny_bind (wpAny_of_eq (a := b) rfl ?_)))
  show wpAny _ _ (mkIntGrown (b.toList.foldl (fun (acc : Int) (c : UInt8) => acc * 256 + (c.toNat : Int)) ((0 : Nat) : Int)) >>= _) _ _ _
  rw [KFB.foldI_eq]; refine wpAny_bind (grownW hn ?_)
  rw [hv]; exact KFB.if_so (by decide +kernel) (wpAny_bind (wpAny_pure (wpAny_pure h)))
end
section
variable {X : Cx}
def rFromW : List V → Hp → VK → Prop := fun vs H Q => ∃ ks : List Int, B8 ks ∧ ks.length ≤ 1000 ∧ vs = [.byt (byteArr ks), .str "big"] ∧ Q (.int (KFB.value ks)) H
def tFromW (to : TE) (t : TA) : TE := fun σ H Q => to σ H fun x H1 => x = .ty "int" ∧ ∀ u, H1 u = none → t σ (upd H1 u (fbHO u)) fun vs H3 => H3 u = some (fbHO u) ∧ rFromW vs H3 Q
theorem pe_fromW {o e : Expr} {es : List Expr} {to : TE} {t : TA} {apos pos : Pos} {pl : Sem Bool} (ho : PE X o to) (ha : PA X (e :: es) t) (hst : starEach (e :: es) X.env = (false, eval e X.env) :: starEach es X.env := by rfl) (hpl : (backTo pos (starEach es X.env)).any (·.1) = false := by rfl)
    (ht : eval (.Call (.Attribute o "from_bytes" apos) (e :: es) [] pos) X.env = (do
      let z ← eval o X.env
      standAt apos.atName
      let (f, y) ← holding [z] (getMethod z "from_bytes" pl)
      callWith pos f y (backTo pos (starEach (e :: es) X.env)) (backToKw pos (keywordEach [] X.env))) := by rfl) :
    PE X (.Call (.Attribute o "from_bytes" apos) (e :: es) [] pos) (tFromW to t) := by
  refine ⟨fun pins s σ H Q I h => methodCall_KW (pl := pl) (thn (ho.run pins s σ H _ I h) fun v s1 ⟨x, H1, I1, rx, ex, q⟩ => ?_) ht⟩
  subst ex
  obtain rfl : v = Value.type "int" := rx
  refine fb_get I1.kIn (find_fb _) ?_
  have eb : (s1.heap.push KFB.bound).get? s1.heap.objs.size = some KFB.bound := Heap.get?_push_size _ rfl
  have I2 := I1.laid (t' := s1.toks + 1) (a := s1.heap.objs.size) (o := fbHO s1.heap.objs.size) (h' := s1.heap.push KFB.bound) (fun b u q => Heap.get?_push_of_some _ q) (Nat.le_refl _) ⟨eb, ⟨_, eb⟩, fun h1 h2 f k => k _ f⟩
  show wpAny _ _ (callWith pos (.ref s1.heap.objs.size) [] (backTo pos (starEach (e :: es) X.env)) []) _ _ _
  have fr := I1.hok.fresh (Nat.le_refl s1.heap.objs.size)
  refine callWith_fb (thn (ha.run pos pins _ σ _ _ I2 (q _ fr)) fun us s2 ⟨vs, H2, I3, rv, hu, hr⟩ => ⟨fb_at I3 hu, ?_⟩) hst hpl
  obtain ⟨ks, h8, hl, ev, k⟩ := hr
  rw [ev] at rv
  obtain ⟨u1, u2, rfl, ⟨t1, rfl⟩, ⟨t2, rfl⟩⟩ := rv.two
  refine KFB.call_of (fb_at I3 hu) (fun z => tree_bigW (by rw [byteArr_size]; exact hl) z) ?_
  rw [bInts_of h8]
  exact ⟨.int _, H2, I3.tok _, ⟨_, rfl⟩, k⟩
end
theorem value_app (l : List Int) (c : Int) : KFB.value (l ++ [c]) = KFB.value l * 256 + c := by
  unfold KFB.value; rw [List.foldl_append]; rfl
theorem value_little : ∀ (k : Nat) (n : Int), 0 ≤ n → n < 256 ^ k → KFB.value (KTBy.little k n).reverse = n
  | 0, n, h0, h1 => by
    have : n = 0 := by rw [Int.pow_zero] at h1; omega
    subst this; rfl
  | k + 1, n, h0, h1 => by
    show KFB.value (n % 256 :: KTBy.little k (n / 256)).reverse = n
    rw [List.reverse_cons, value_app, value_little k (n / 256) (Int.ediv_nonneg h0 (by decide)) (by rw [Int.pow_succ] at h1; exact Int.ediv_lt_of_lt_mul (by decide) h1)]
    omega
end An

namespace An
open PySem PySem.W PySem.Spec PyProof.Rows L2 TL Bits
section
variable {X : Cx}
end
end An

namespace An
open PySem PySem.W PySem.Spec PyProof.Rows L2 TL Bits
def revS (z : Str) : Str := ⟨z.cps.toList.reverse.toArray⟩
section
variable {X : Cx}
end
end An

namespace An
open PySem PySem.W PySem.Spec PyProof.Rows L2 TL Bits
structure WcD (P : Program) (w : World) (K : Frag) (mg : Str → Option Value) (base : Heap) (k : Nat) (f : Addr) (x q : Str) (st : Stmt) (dvs : List V) (kws : List (Str × V)) (ps : List Str) (sp : Sp) : Prop where
  ex : ∃ fd, FunD K x q (defArgs st) (defBody st) (defScope st) dvs kws f fd ∧ FnOk P w K mg base (L2.CX P w) k f fd ps sp
section
variable {P : Program} {w : World} {K : Frag} {mg : Str → Option Value} {base : Heap}
end
structure FnCK (P : Program) (w : World) (K : Frag) (mg : Str → Option Value) (base : Heap) (k : Nat) (x : Str) (n : Nat) (ks : List Str) (sp : Sp) : Prop where
  ex : ∃ (f : Addr) (fd : FuncData) (ps : List Str) (si : Sp) (g : List Value → List Value → List Value) (gV : List V → List V → List V), Mk K (He.ga K x) f ∧ FnOk P w K mg base (L2.CX P w) k f fd ps si ∧ KBn K fd ps (n + 1) ks g gV ∧
    ∀ vs zs H Q E, vs.length = n → zs.length = ks.length → sp (vs ++ zs) H Q E → ∀ a dx : Addr, H a = none → H dx = none → dx ≠ a →
      si (gV (.ref a :: vs) zs) (upd (upd H dx (.own a)) a (.ins (He.ga K x) dx [])) (fun v H2 => v = .non ∧ Q (.ref a) H2) E
  gl : mg x = some (.ref (He.ga K x))
section
variable {X : Cx} {k n : Nat} {sp : Sp} {E : XK} {x : Str} {p pos : Pos} {e : Expr} {es : List Expr} {ks : List Str} {kws : List Keyword} {t tk : TA}
end
end An

namespace An
open PySem PySem.W PySem.Spec PyProof.Rows L2 TL Bits
theorem putF_new {f : Str} {v : V} : ∀ {fs : List (Str × V)}, fs.lookup f = none → putF f v fs = fs ++ [(f, v)]
  | [], _ => rfl
  | (g, x) :: r, h => by
    rw [List.lookup_cons] at h
    have hne : (f == g) = false := by
      cases e : f == g with
      | false => rfl
      | true => rw [e] at h; cases h
    rw [hne] at h
    have h2 : ¬ g = f := fun z => by rw [z] at hne; simp at hne
    unfold putF
    rw [if_neg h2, putF_new (fs := r) h]; rfl
section
variable {X : Cx} {o value : Expr} {f : Str} {pos pos' : Pos} {ta tv : TE}
end
end An

namespace An
open PySem PySem.W PySem.Spec PyProof.Rows L2 TL Bits
theorem cmul_l {i j : Int} (h : -18446744073709551616 < i ∧ i < 18446744073709551616) : CMul i j := Or.inl h
theorem cmul_r {i j : Int} (h : -18446744073709551616 < j ∧ j < 18446744073709551616) : CMul i j := Or.inr h
theorem cdivw {i j : Int} (h : 0 < j) (h2 : j < 2 ^ 200) : CDivW i j := by
  refine wide_div h (b := 200) ?_ (by decide) (by decide)
  have e : (j.natAbs : Int) = j := by omega
  have e2 : ((2 ^ 200 : Nat) : Int) = 2 ^ 200 := by decide +kernel
  omega
theorem cshl {i j : Int} (h0 : 0 ≤ j) (h1 : j ≤ 100000) (h2 : -(2 ^ 200) < i) (h3 : i < 2 ^ 200) : CShl i j := by
  obtain ⟨n, rfl⟩ := Int.eq_ofNat_of_zero_le h0
  have e2 : ((2 ^ 200 : Nat) : Int) = 2 ^ 200 := by decide +kernel
  exact shl_ok (n := 200) (by omega) (by omega)
theorem cpow10 : CPow 10 18 := ⟨by decide, by decide, by decide⟩
end An

namespace An
open PySem PySem.W PySem.Spec PyProof.Rows L2 TL Bits Builtin Builtin.Str Builtin.Int Builtin.Float
def hexL (n : Nat) : List Nat := (Nat.toDigits 16 n).map Char.toNat
def hexF (f : FormatSpec) (n : Nat) : Str := intField' f (decide ((n : Int) < 0)) [] ((Nat.toDigits 16 (n : Int).natAbs).map fun c => (if (120 : Nat) == 88 then c.toUpper else c).toNat) [] 4
section
variable {prog : Program} {w : World} {A : Around} {E : Value → Shared → Prop} {s : Shared}
theorem field_hex {n fl al : Nat} {W : Option Nat} {t : Tok} {spec : Str} {Q : Value → Shared → Prop}
    (hp : parseFormatSpec spec.cps.toList "int" 62 = .ok { fill := fl, align := al, width := W, type := some 120 }) (hne : (spec.length == 0) = false)
    (hasc : ((spec.cps.toList.drop 1).any (· ≥ 128) || (spec.cps.getD 0 0 ≥ 128 && !([60, 62, 61, 94] : List Nat).contains (spec.cps.getD 1 0))) = false)
    (hw : W.getD 0 ≤ 100000) (hx : (hexF { fill := fl, align := al, width := W, type := some 120 } n).length ≤ sizeLine) (hsz : spec.length ≤ sizeLine)
    (h : Q (.str (hexF { fill := fl, align := al, width := W, type := some 120 } n) (s.toks + 1)) { s with toks := s.toks + 1 + 1 }) :
    wpAny (model prog w) A (formatField (.int (n : Int) t) spec) Q E s := by
  show wpAny _ _ (holding [.int (n : Int) t] (pyFormat (.int (n : Int) t) spec)) Q E s
  refine wpAny_holding ?_
  unfold pyFormat
  refine wpAny_bind (wpAny_mkStr ?_ hsz)
  refine wpAny_bind (m := callSpecial? (.int (n : Int) t) (Str.ofString "__format__") [.str spec s.toks]) (wpAny_callSpecial?_slot (name := Str.ofString "__format__") (typeIs_int _ _ t) slot_int_format ?_)
  refine wpAny_call (codeAny_call_builtin slot_int_format.plain entry_int_format (slot_int_format.check _ _ _ _ _ _ _ _ (typeIs_int _ _ t) (args_int_format _ _) ?_))
  unfold Builtin.«int.__format__»
  simp only [selfAndOne, noKeywords, Int.intOfSelf, asInt?, asStr?, List.isEmpty_nil, if_true, pure_bind, bind_pure, bind_assoc, hne, hasc, Bool.false_eq_true, if_false,
    show (Value.str spec s.toks == Value.none) = false from rfl]
  refine wpAny_bind (wpAny_typeNameOf (T := "str") (typeIs_str _ _ _) (by decide) fun _ => ?_)
  first | refine wpAny_bind (wpAny_typeNameOfCut_int ?_) | refine wpAny_bind (wpAny_typeNameOf_int ?_)
  simp only [hp, Option.getD_some]
  rw [if_pos (by decide)]
  show wpAny _ _ (if W.getD 0 > 100000 then _ else _) _ _ _
  rw [if_neg (by omega)]
  show wpAny _ _ (retStr (hexF { fill := fl, align := al, width := W, type := some 120 } n)) _ _ _
  unfold retStr
  refine wpAny_bind (wpAny_mkStr (wpAny_pure ?_) hx)
  dsimp only
  exact wpAny_bind (wpAny_isInstance (typeIs_str _ _ _) isSubtype_str_str (wpAny_pure h))
theorem toDigits_ne (n : Nat) : Nat.toDigits 16 n ≠ [] := by
  intro e
  have := tDigits_len_ge 16 n
  rw [e] at this
  exact absurd this (by decide)
theorem hexD_ne (n : Nat) : (hexL n).isEmpty = false := by
  unfold hexL
  cases e : Nat.toDigits 16 n with
  | nil => exact absurd e (toDigits_ne n)
  | cons c r => rfl
theorem hexF_eq (f : FormatSpec) (n : Nat) : hexF f n = intField' f false [] (hexL n) [] 4 := by
  have hn : decide ((n : Int) < 0) = false := decide_eq_false (by omega)
  unfold hexF
  rw [hn]; rfl
theorem fld_plain {D : List Nat} (hD : D.isEmpty = false) : intField' { fill := 32, align := 62, width := none, type := some 120 } false [] D [] 4 = ⟨D.toArray⟩ := by
  unfold intField'
  simp only [hD, Bool.false_eq_true, if_false, show ((62 : Nat) == 60) = false from rfl, show ((62 : Nat) == 94) = false from rfl, show ((62 : Nat) == 61) = false from rfl, Bool.and_false]
  have e0 : ((-1 : Int) - ((([] : List Nat).length : Int) + (([] : List Nat).length : Int) + (([] : List Nat).length : Int)) - ((List.replicate ((0 : Int).toNat - D.length) 48 ++ D).length : Int)).toNat = 0 := by
    simp only [List.length_nil]; omega
  rw [e0]
  simp
def hexS (n : Nat) : Str := ⟨(hexL n).toArray⟩
theorem field_x {n : Nat} {t : Tok} {Q : Value → Shared → Prop} (hx : (hexS n).length ≤ sizeLine) (h : Q (.str (hexS n) (s.toks + 1)) { s with toks := s.toks + 1 + 1 }) : wpAny (model prog w) A (formatField (.int (n : Int) t) ("x" : Str)) Q E s := by
  have e : hexF { fill := 32, align := 62, width := none, type := some 120 } n = hexS n := by rw [hexF_eq]; exact fld_plain (hexD_ne n)
  exact field_hex (fl := 32) (al := 62) (W := none) (by kernel_rfl) (by decide +kernel) (by decide +kernel) (by decide) (by rw [e]; exact hx) (by decide +kernel) (by rw [e]; exact h)
end
def tFmtX (F : Nat → Str) (te : TE) : TE := fun σ H Q => te σ H fun x H1 => ∃ n : Nat, x = .int (n : Int) ∧ (F n).length ≤ sizeLine ∧ Q (.str (F n)) H1
section
variable {X : Cx} {e : Expr} {te : TE} {k : Nat} {p1 p2 pos : Pos}
theorem pe_fmtW {z : Str} {F : Nat → Str} (hf : ∀ {prog : Program} {w : World} {A : Around} {E : Value → Shared → Prop} {s : Shared} {n : Nat} {t : Tok} {Q : Value → Shared → Prop}, (F n).length ≤ sizeLine → Q (.str (F n) (s.toks + 1)) { s with toks := s.toks + 1 + 1 } → wpAny (model prog w) A (formatField (.int (n : Int) t) z) Q E s)
    (he : PE X e te) : PE X (.FormattedValue e (-1) (some (.JoinedStr [.Constant (.str z) k p1] p2)) pos) (tFmtX F te) := by
  refine ⟨fun pins s σ H Q I h => wpAny_FormattedValue_spec (thn (he.run pins s σ H _ I h) fun u s1 hh => ?_)⟩
  obtain ⟨x, H1, I1, rx, n, rfl, hl, q⟩ := hh
  obtain ⟨t, rfl⟩ := rx
  refine thn ((pe_joined1 (pos := p2) (pe_str (X := X) (x := z) (j := k) (pos := p1))).run pins s1 σ H1 (fun v H2 => v = .str z ∧ H2 = H1) I1 ⟨rfl, rfl⟩) fun r s2 h2 => ?_
  obtain ⟨v, H2, I2, rv, rfl, rfl⟩ := h2
  obtain ⟨t2, rfl⟩ := rv
  exact ⟨z, t2, rfl, hf hl ⟨.str _, H2, I2.tok _, ⟨_, rfl⟩, q⟩⟩
theorem pe_fmtX (he : PE X e te) : PE X (.FormattedValue e (-1) (some (.JoinedStr [.Constant (.str ("x" : Str)) k p1] p2)) pos) (tFmtX hexS te) := pe_fmtW field_x he
end
end An

namespace Dn
open PySem PySem.W PySem.Spec PyProof.Rows L2 TL Bits An
def oexB (K : Frag) (C : Addr) : Bool := match K.lookup C with
  | some ⟨.type "type", _, .cls cd, sl⟩ => (match cd.mro, sl.toList with
    | .ref C' :: bm, [_, _, _, _, some (.builtin n), _] => C' == C && (n == "ValueError.__new__" && (!cd.hasDel && (cd.hasDict && PySem.HandSPX.refsVE bm)))
    | _, _ => false)
  | _ => false
def btys : List String := ["int", "str", "bytes", "bool", "list", "tuple", "NoneType", "dict"]
def kitsB (K : Frag) (cs : List Str) : Bool := cs.all fun c => tyB K c && ((cs.all fun c' => decide (PySem.W.kitOne K (.ref (He.ga K c)) (.ref (He.ga K c')) = some (c == c'))) && btys.all fun t => decide (PySem.W.kitOne K (.type t) (.ref (He.ga K c)) = some false) && decide (PySem.W.kitOne K (.ref (He.ga K c)) (.type t) = some false))
def nfB (K : Frag) (cs : List Str) : Bool := cs.all fun c => (cs.all fun c' => notFirst K (He.ga K c) (.ref (He.ga K c'))) && btys.all fun t => notFirst K (He.ga K c) (.type t)
def noB (K : Frag) (c : Str) : Bool := He.eqO (PySem.W.findIn K (.ref (He.ga K c)) "__ne__") (some (some (.builtin "object.__ne__"))) && decide (PySem.W.mroIn K (He.ga K c) (.type "object") = some true)
def foB (K : Frag) (c : Str) : Bool := He.eqO (PySem.W.findIn K (.ref (He.ga K c)) "__format__") (some (some (.builtin "object.__format__"))) && decide (PySem.W.mroIn K (He.ga K c) (.type "object") = some true)
def xcB (K : Frag) (x : Str) : Bool := PySem.W.excIn K (He.ga K x) He.veBase "ValueError.__new__" && (PySem.W.keepIn K (.ref (He.ga K x)) && (decide (PySem.W.subIn K (.ref (He.ga K x)) (.type "BaseException") = some true) && decide (PySem.W.typeIn K (.ref (He.ga K x)) = some (.type "type"))))
def xiB (K : Frag) (x f : Str) : Bool := oexB K (He.ga K x) && (decide (PySem.W.findIn K (.ref (He.ga K x)) "__setattr__" = some (some (.builtin "object.__setattr__"))) && (PySem.W.keepIn K (.ref (He.ga K x)) && (decide (PySem.W.subIn K (.ref (He.ga K x)) (.type "BaseException") = some true) && (decide (PySem.W.typeIn K (.ref (He.ga K x)) = some (.type "type")) &&
  (He.eqO (PySem.W.findIn K (.ref (He.ga K x)) "__init__") (some (some (.ref (He.ma K (He.ga K x) "__init__")))) && (decide (PySem.W.typeIn K (.ref (He.ma K (He.ga K x) "__init__")) = some (.type "function")) && decide (PySem.W.findIn K (.ref (He.ga K x)) f = some none)))))))
def xfsB (K : Frag) (f : Str) (cs : List Str) : Bool := cs.all fun c => xfB K (He.ga K c) && decide (PySem.W.findIn K (.ref (He.ga K c)) f = some none)
def xk1 (K : Frag) (c : Str) : Bool := (PySem.W.clsIn K (He.ga K c)).isSome && (decide (PySem.W.findIn K (.ref (He.ga K c)) "__getattribute__" = some (some (.builtin "BaseException.__getattribute__"))) && (decide (PySem.W.findIn K (.ref (He.ga K c)) "__getattr__" = some none) && (decide (PySem.W.subIn K (.ref (He.ga K c)) (.type "BaseException") = some true) &&
    (decide (PySem.W.findIn K (.ref (He.ga K c)) "__class__" = some (some (.builtin "object.__class__"))) && (decide (PySem.W.specialIn K (.builtin "object.__class__") "__get__" = some (some (.builtin "getset_descriptor.__get__"))) && (decide (PySem.W.takesIn K (.builtin "object.__class__") = some true) && decide (PySem.W.mroIn K (He.ga K c) (.type "object") = some true)))))))
def xkB (K : Frag) (xs : List Str) : Bool := xs.all fun c => xk1 K c && ((xs.all fun C => decide (PySem.W.kitOne K (.ref (He.ga K c)) (.ref (He.ga K C)) = some (c == C || C == "NetError"))) && decide (PySem.W.kitOne K (.ref (He.ga K c)) (.type "ValueError") = some true))
def codK (K : Frag) (x : Str) : Addr := match K.lookup (He.ga K x) with
  | some ⟨_, _, .func fd, _⟩ => (match fd.code with
    | .ref c => c
    | _ => 0)
  | _ => 0
def tabP (K : Frag) (c : Addr) : Addr := match K.lookup c with
  | some ⟨_, _, .fields vs, _⟩ => (match vs.getD 11 .none with
    | .ref P => P
    | _ => 0)
  | _ => 0
def tabK (K : Frag) (x : Str) : Addr × Addr := (codK K x, tabP K (codK K x))
structure SaysL (fb : List (Frag → Bool)) (fn : List He5.DefA) (xs : List Str) (h : Heap) (K : Frag) : Prop where
  m : An.SaysM fb fn K
  nd : (xs.map fun x => (tabK K x).2).Nodup
  hd : ∀ x ∈ xs, PySem.W.codeHdIn K (tabK K x).1 (tabK K x).2 = true
  out : ∀ x ∈ xs, K.lookup (tabK K x).2 = none
  empty : ∀ x ∈ xs, h.get? (tabK K x).2 = some { cls := .none, data := .fields #[] }
theorem obsM_of {fb : List (Frag → Bool)} {fn : List He5.DefA} {K : Frag} (h0 : An.obsM fb [] K = He5.valA []) (h1 : An.obsM [] fn K = He5.valA fn) : An.obsM fb fn K = He5.valA fn := by
  have a := congrArg Prod.fst h0
  have b := congrArg Prod.fst h1
  have c := congrArg Prod.snd h1
  have a : ((fb.all fun f => f K) && true) = true := a
  have b : (true && fn.all fun d => d.ok K) = true := b
  have c : fn.map (fun d => He5.fnA K (d.at_ K)) = fn.map He5.DefA.val := c
  unfold An.obsM He5.valA
  rw [Bool.and_true] at a
  rw [Bool.true_and] at b
  rw [a, b, c]
  rfl
theorem runM_of {α β : Type} {X : Option α} {a : α → Bool} {b : α → β} {g : β} {n : Nat} {fb : List (Frag → Bool)} {fn : List He5.DefA} {G : α → Addr → Option Obj} (h0 : X.map (fun s => (a s, b s, An.obsMG n fb [] (G s))) = some (true, g, He5.valA [])) (h1 : X.map (fun s => An.obsMG n [] fn (G s)) = some (He5.valA fn)) :
    X.map (fun s => (a s, b s, An.obsMG n fb fn (G s))) = some (true, g, He5.valA fn) := by
  cases X with
  | none => cases h0
  | some s =>
    have e0 := Option.some.inj h0
    have e1 : An.obsMG n [] fn (G s) = He5.valA fn := Option.some.inj h1
    have p : a s = true := congrArg Prod.fst e0
    have q : b s = g := congrArg (fun z => z.2.1) e0
    have r : An.obsMG n fb [] (G s) = He5.valA [] := congrArg (fun z => z.2.2) e0
    unfold An.obsMG at r e1
    rw [An.frK_eq] at r e1
    show some (a s, b s, An.obsMG n fb fn (G s)) = _
    unfold An.obsMG
    rw [An.frK_eq, p, q, obsM_of r e1]
end Dn

namespace Dn
open PySem PySem.W PySem.Spec PyProof.Rows L2 TL Bits An
def top (i : Nat) : Stmt := PySem.Challenge.pw_addressnets_k22_errors_by_themselves.main.body.getD i (.Pass ⟨0, 0, 0, 0⟩)
def csA : List Str := [("Address4" : Str), ("Address6" : Str)]
def xsA : List Str := [("NetError" : Str), ("BadKind" : Str), ("BadNumber" : Str), ("BadText" : Str), ("BadBytes" : Str), ("BadPrefix" : Str), ("HostBits" : Str), ("Mixed" : Str), ("NotWithin" : Str), ("BadRange" : Str), ("BadWord" : Str), ("NotThere" : Str), ("NoMatch" : Str)]
def fn : List He5.DefA :=
  ([dG "_law_source" (top 48),
   dG "_law_mix" (top 47),
   dG "_law_draw" (top 49),
   dG "_law_number" (top 50),
   dG "is_integer" (top 40),
   dG "is_from" (top 41),
   dM "BadNumber" "__init__" "BadNumber.__init__" (inClass (top 4) 0),
   dG "part_fault" (top 17),
   dG "quad_fault" (top 18),
   dM "BadText" "__init__" "BadText.__init__" (inClass (top 5) 0)] : List He5.DefA) ++
  ([dG "read_quad" (top 19),
   dG "quad_place" (top 24),
   dG "has_wrong_quad" (top 25),
   dG "has_wrong_gaps" (top 26),
   dG "has_wrong_ends" (top 27),
   dG "hex_groups" (top 28),
   dG "parts_of" (top 29),
   dG "has_wrong_count" (top 30),
   dG "groups_fault" (top 31),
   dG "hex_number" (top 32)] : List He5.DefA) ++
  ([dG "read_groups" (top 33),
   dM "BadBytes" "__init__" "BadBytes.__init__" (inClass (top 6) 0),
   dG "number_of" (top 43),
   dM "Address4" "__init__" "Address4.__init__" (inClass (top 44) 2),
   dM "Address6" "__init__" "Address6.__init__" (inClass (top 45) 2),
   dM "BadPrefix" "__init__" "BadPrefix.__init__" (inClass (top 7) 0),
   dM "HostBits" "__init__" "HostBits.__init__" (inClass (top 8) 0),
   dG "_law_marks" (top 51),
   dM "Address4" "__eq__" "Address4.__eq__" (inClass (top 44) 13),
   dM "Address6" "__eq__" "Address6.__eq__" (inClass (top 45) 14)] : List He5.DefA) ++
  ([dG "quad_parts" (top 20),
   dG "quad_text" (top 21),
   dM "Address4" "__str__" "Address4.__str__" (inClass (top 44) 12),
   dG "group_numbers" (top 34),
   dG "longest_run" (top 35),
   dG "groups_text" (top 36),
   dM "Address6" "__str__" "Address6.__str__" (inClass (top 45) 13),
   dG "law" (top 52)] : List He5.DefA)
def fb : List (Frag → Bool) :=
  ([fun K => keepIn K (.ref (He.ga K "_law_source")),
   fun K => (He.Fa.glo "_law_source").ok K,
   fun K => (He.Fa.free "len").ok K,
   fun K => keepIn K (.ref (He.ga K "_law_mix")),
   fun K => (He.Fa.glo "_law_mix").ok K,
   fun K => (He.Fa.free "int").ok K,
   fun K => keepIn K (.ref (He.ga K "_law_draw")),
   fun K => (He.Fa.glo "_law_draw").ok K,
   fun K => keepIn K (.ref (He.ga K "_law_number")),
   fun K => (He.Fa.glo "_law_number").ok K] : List (Frag → Bool)) ++
  ([fun K => (He.Fa.free "min").ok K,
   fun K => (He.Fa.free "range").ok K,
   fun K => (He.Fa.cls "Address4").ok K,
   fun K => (He.Fa.noat "Address4" "number").ok K,
   fun K => (He.Fa.cls "Address6").ok K,
   fun K => (He.Fa.noat "Address6" "number").ok K,
   fun K => keepIn K (.ref (He.ga K "is_integer")),
   fun K => (He.Fa.glo "is_integer").ok K,
   fun K => (He.Fa.free "isinstance").ok K,
   fun K => (He.Fa.free "bool").ok K] : List (Frag → Bool)) ++
  ([fun K => keepIn K (.ref (He.ga K "is_from")),
   fun K => (He.Fa.glo "is_from").ok K,
   fun K => (He.Fa.glo "BadNumber").ok K,
   fun K => keepIn K (.ref (He.ga K "part_fault")),
   fun K => (He.Fa.glo "part_fault").ok K,
   fun K => (He.Fa.free "all").ok K,
   fun K => (He.Fa.str "DIGITS" "0123456789").ok K,
   fun K => keepIn K (.ref (He.ga K "quad_fault")),
   fun K => (He.Fa.glo "quad_fault").ok K,
   fun K => (He.Fa.glo "BadText").ok K] : List (Frag → Bool)) ++
  ([fun K => keepIn K (.ref (He.ga K "read_quad")),
   fun K => (He.Fa.glo "read_quad").ok K,
   fun K => keepIn K (.ref (He.ga K "quad_place")),
   fun K => (He.Fa.glo "quad_place").ok K,
   fun K => keepIn K (.ref (He.ga K "has_wrong_quad")),
   fun K => (He.Fa.glo "has_wrong_quad").ok K,
   fun K => keepIn K (.ref (He.ga K "has_wrong_gaps")),
   fun K => (He.Fa.glo "has_wrong_gaps").ok K,
   fun K => keepIn K (.ref (He.ga K "has_wrong_ends")),
   fun K => (He.Fa.glo "has_wrong_ends").ok K] : List (Frag → Bool)) ++
  ([fun K => keepIn K (.ref (He.ga K "hex_groups")),
   fun K => (He.Fa.glo "hex_groups").ok K,
   fun K => keepIn K (.ref (He.ga K "parts_of")),
   fun K => (He.Fa.glo "parts_of").ok K,
   fun K => keepIn K (.ref (He.ga K "has_wrong_count")),
   fun K => (He.Fa.glo "has_wrong_count").ok K,
   fun K => keepIn K (.ref (He.ga K "groups_fault")),
   fun K => (He.Fa.glo "groups_fault").ok K,
   fun K => (He.Fa.str "HEX" "0123456789abcdef").ok K,
   fun K => keepIn K (.ref (He.ga K "hex_number"))] : List (Frag → Bool)) ++
  ([fun K => (He.Fa.glo "hex_number").ok K,
   fun K => keepIn K (.ref (He.ga K "read_groups")),
   fun K => (He.Fa.glo "read_groups").ok K,
   fun K => (He.Fa.glo "BadBytes").ok K,
   fun K => keepIn K (.ref (He.ga K "number_of")),
   fun K => (He.Fa.glo "number_of").ok K,
   fun K => (He.Fa.free "str").ok K,
   fun K => (He.Fa.int "WIDTH4" 32).ok K,
   fun K => (He.Fa.free "bytes").ok K,
   fun K => (He.Fa.glo "BadKind").ok K] : List (Frag → Bool)) ++
  ([fun K => (He.Fa.glo "Address4").ok K,
   fun K => (He.Fa.mkr "Address4").ok K,
   fun K => (He.Fa.glo "Address6").ok K,
   fun K => (He.Fa.int "WIDTH6" 128).ok K,
   fun K => (He.Fa.mkr "Address6").ok K,
   fun K => (He.Fa.glo "BadPrefix").ok K,
   fun K => (He.Fa.glo "HostBits").ok K,
   fun K => keepIn K (.ref (He.ga K "_law_marks")),
   fun K => (He.Fa.glo "_law_marks").ok K,
   fun K => (He.Fa.glo "Mixed").ok K] : List (Frag → Bool)) ++
  ([fun K => (He.Fa.glo "NotWithin").ok K,
   fun K => (He.Fa.glo "BadRange").ok K,
   fun K => (He.Fa.glo "BadWord").ok K,
   fun K => (He.Fa.glo "NotThere").ok K,
   fun K => (He.Fa.glo "NoMatch").ok K,
   fun K => (He.Fa.meth "Address4" "__eq__").ok K,
   fun K => (He.Fa.meth "Address6" "__eq__").ok K,
   fun K => keepIn K (.ref (He.ga K "quad_parts")),
   fun K => (He.Fa.glo "quad_parts").ok K,
   fun K => keepIn K (.ref (He.ga K "quad_text"))] : List (Frag → Bool)) ++
  ([fun K => (He.Fa.glo "quad_text").ok K,
   fun K => keepIn K (.ref (He.ga K "group_numbers")),
   fun K => (He.Fa.glo "group_numbers").ok K,
   fun K => keepIn K (.ref (He.ga K "longest_run")),
   fun K => (He.Fa.glo "longest_run").ok K,
   fun K => (He.Fa.free "enumerate").ok K,
   fun K => keepIn K (.ref (He.ga K "groups_text")),
   fun K => (He.Fa.glo "groups_text").ok K,
   fun K => (He.Fa.meth "Address4" "__str__").ok K,
   fun K => (He.Fa.meth "Address6" "__str__").ok K] : List (Frag → Bool)) ++
  ([fun K => (He.Fa.free "max").ok K,
   fun K => (He.Fa.glo "NetError").ok K,
   fun K => (He.Fa.free "ValueError").ok K,
   fun K => (He.Fa.free "repr").ok K,
   fun K => (He.Fa.glo "law").ok K,
   fun K => Dn.kitsB K csA,
   fun K => Dn.xiB K "BadNumber" "value",
   fun K => Dn.xiB K "BadText" "why",
   fun K => Dn.xiB K "BadBytes" "length",
   fun K => Dn.xcB K "BadKind"] : List (Frag → Bool)) ++
  ([fun K => Dn.xiB K "BadPrefix" "length",
   fun K => Dn.xiB K "HostBits" "told",
   fun K => Dn.xkB K xsA,
   fun K => Dn.noB K "Address4",
   fun K => Dn.noB K "Address6",
   fun K => Dn.foB K "Address4",
   fun K => Dn.xcB K "Mixed",
   fun K => Dn.xcB K "NotWithin",
   fun K => Dn.xcB K "BadRange",
   fun K => Dn.xcB K "BadWord"] : List (Frag → Bool)) ++
  ([fun K => Dn.xcB K "NotThere",
   fun K => Dn.xcB K "NoMatch",
   fun K => Dn.nfB K csA,
   fun K => Dn.xfsB K "value" [("BadNumber" : Str)],
   fun K => Dn.xfsB K "why" [("BadText" : Str)],
   fun K => Dn.xfsB K "length" [("BadBytes" : Str), ("BadPrefix" : Str)],
   fun K => Dn.xfsB K "told" [("HostBits" : Str)]] : List (Frag → Bool))
abbrev R : PySem.W.OpenRow := PySem.W.OpenLaw.row PySem.Challenge.rw_addressnets_k22_errors_by_themselves
abbrev hk : PySem.W.Hook := hookM 6 fb fn
def ob (s : PySem.W.SharedT) : He.AlD := obsMG 6 fb fn (HandSHeadRun.getT s)
theorem ob_eq (s : PySem.W.SharedT) : ob s = hk.obs s.abs := obsMG_eq (HandSHeadRun.getT_eq s)
def loose : List Str :=
  ([("_wall" : Str),
   ("NetError" : Str),
   ("BadKind" : Str),
   ("BadNumber" : Str),
   ("BadText" : Str),
   ("BadBytes" : Str),
   ("BadPrefix" : Str),
   ("HostBits" : Str),
   ("Mixed" : Str),
   ("NotWithin" : Str),
   ("BadRange" : Str),
   ("BadWord" : Str)] : List Str) ++
  ([("NotThere" : Str),
   ("NoMatch" : Str),
   ("DIGITS" : Str),
   ("part_fault" : Str),
   ("quad_fault" : Str),
   ("read_quad" : Str),
   ("quad_parts" : Str),
   ("quad_text" : Str),
   ("HEX" : Str),
   ("quad_place" : Str),
   ("has_wrong_quad" : Str),
   ("has_wrong_gaps" : Str)] : List Str) ++
  ([("has_wrong_ends" : Str),
   ("hex_groups" : Str),
   ("parts_of" : Str),
   ("has_wrong_count" : Str),
   ("groups_fault" : Str),
   ("hex_number" : Str),
   ("read_groups" : Str),
   ("group_numbers" : Str),
   ("longest_run" : Str),
   ("groups_text" : Str),
   ("WIDTH4" : Str),
   ("WIDTH6" : Str)] : List Str) ++
  ([("is_integer" : Str),
   ("is_from" : Str),
   ("number_of" : Str),
   ("Address4" : Str),
   ("Address6" : Str),
   ("_law_mix" : Str),
   ("_law_source" : Str),
   ("_law_draw" : Str),
   ("_law_number" : Str),
   ("_law_marks" : Str)] : List Str)
abbrev hkP : PySem.W.Hook := hookM 6 fb []
def obP (s : PySem.W.SharedT) : He.AlD := obsMG 6 fb [] (HandSHeadRun.getT s)
def obQ (s : PySem.W.SharedT) : He.AlD := obsMG 6 [] fn (HandSHeadRun.getT s)
theorem run0 (w : World) : HandSHeadRun.RunEq R (PySem.W.view R.prog [52]) hkP obP 20000 loose w := by
  intro os
  kernel_rfl
theorem run1 (w : World) (os : OsState) : (HandSHeadRun.endF (HandSHeadRun.stepQ (HandSHeadRun.denQ HandSHeadRun.tabQ) R.prog w) 20000 R.prog w os).map obQ = some (He5.valA fn) := by
  kernel_rfl
theorem run (w : World) : HandSHeadRun.RunEq R (PySem.W.view R.prog [52]) hk ob 20000 loose w := fun os => runM_of (run0 w os) (run1 w os)
end Dn
namespace Dn
open PySem PySem.W PySem.Spec PyProof.Rows L2 TL Bits An
inductive D where
  | non | bl (b : Bool) | int (i : Int) | str (z : Str) | byt (b : Array UInt8)
  | lst (xs : List D) | tup (xs : List D)
  | ins (c : Str) (ns : List Str) (ds : List D)
  | dct (ks vs : List D)
  | src
  | src1
  | scr (xs : List D)
  | cell (i : Nat)
  | cls (c : Str) | ty (n : String)
  | lam (o : Addr → Addr → HO) (q : Str) (j : Nat)
  | xn (c : Str) (ns : List Str) (ds : List D)
  | fl (xs : List D)
inductive Cell where
  | bk (ver : Int) (rows : List ((Int × Int) × Str))
  | bz (ver : Int) (rows : List ((Int × Int) × Str))
  | tb (x q : Str)
abbrev Sv := List Cell
structure Xn where
  c : Str
  ns : List Str
  ds : List D
abbrev M (α : Type) := Sv → (α → Sv → Prop) → (Xn → Sv → Prop) → Prop
def ret {α : Type} (a : α) : M α := fun S Q _ => Q a S
def bind {α β : Type} (m : M α) (k : α → M β) : M β := fun S Q E => m S (fun a S' => k a S' Q E) E
def fail {α : Type} : M α := fun _ _ _ => False
def raise {α : Type} (x : Xn) : M α := fun S _ E => E x S
def Mono {α : Type} (m : M α) : Prop := ∀ S Q Q' E E', (∀ a S', Q a S' → Q' a S') → (∀ x S', E x S' → E' x S') → m S Q E → m S Q' E'
theorem mono_ret {α : Type} {a : α} : Mono (ret a) := fun _ _ _ _ _ q _ h => q _ _ h
theorem mono_bind {α β : Type} {m : M α} {k : α → M β} (hm : Mono m) (hk : ∀ a, Mono (k a)) : Mono (bind m k) := fun _ _ _ _ _ q e h =>
  hm _ _ _ _ _ (fun a S' h' => hk a _ _ _ _ _ q e h') e h
theorem mono_fail {α : Type} : Mono (fail : M α) := fun _ _ _ _ _ _ _ h => h.elim
def iteM {α : Type} (c : Bool) (m n : M α) : M α := fun S Q E => (c = true → m S Q E) ∧ (c = false → n S Q E)
def iteP (c : Bool) (p q : Prop) : Prop := (c = true → p) ∧ (c = false → q)
theorem mono_ite {α : Type} {c : Bool} {m n : M α} (hm : Mono m) (hn : Mono n) : Mono (iteM c m n) := fun S Q Q' E E' q e h => ⟨fun z => hm _ _ _ _ _ q e (h.1 z), fun z => hn _ _ _ _ _ q e (h.2 z)⟩
inductive Sl where
  | un | sh (d : D)
  | ol (ds : List D) | oi (c : Str) (ns : List Str) (ds : List D)
  | ex (x : Xn)
  | fn
def Sl.own : Sl → Bool
  | .ol _ => true
  | .oi _ _ _ => true
  | _ => false
abbrev Rh := List Sl
structure EndsD where
  nx : Rh → Sv → Prop
  rt : D → Sv → Prop
  bk : Rh → Sv → Prop
  ct : Rh → Sv → Prop
  ex : Xn → Rh → Sv → Prop
abbrev Sm := Rh → Sv → EndsD → Prop
def MonoS (m : Sm) : Prop := ∀ ρ S D D', (∀ ρ S, D.nx ρ S → D'.nx ρ S) → (∀ d S, D.rt d S → D'.rt d S) → (∀ ρ S, D.bk ρ S → D'.bk ρ S) → (∀ ρ S, D.ct ρ S → D'.ct ρ S) → (∀ x ρ S, D.ex x ρ S → D'.ex x ρ S) → m ρ S D → m ρ S D'
structure Gd where
  F : Hp
  A : List (Addr × Addr)
structure Gle (G G' : Gd) : Prop where
  f : ∀ a o, G.F a = some o → G'.F a = some o
  a : G.A <+: G'.A
theorem Gle.refl (G : Gd) : Gle G G := ⟨fun _ _ h => h, List.prefix_refl _⟩
theorem Gle.trans {G G1 G2 : Gd} (x : Gle G G1) (y : Gle G1 G2) : Gle G G2 := ⟨fun a o h => y.f a o (x.f a o h), x.a.trans y.a⟩
def DctOf (ks us : List D) (kvs : List (Key × V)) : Prop := (ks = [] ∧ us = [] ∧ kvs = []) ∨ ∃ (z : Str) (i : Int), ks = [.str z] ∧ us = [.int i] ∧ kvs = [(.inr z, .int i)]
def ExvO (cls : Value) (d : Option Addr) (a : Addr) : HO := .ext fun h => ∃ (oe : Obj) (vs : Array Value), h.get? a = some oe ∧ Zc cls d oe ∧ oe.data = .fields vs
section
variable (K : Frag)
mutual
def Rep (G : Gd) : D → V → Prop
  | .non, v => v = .non
  | .bl b, v => v = .bl b
  | .int i, v => v = .int i
  | .str z, v => v = .str z
  | .byt b, v => v = .byt b
  | .lst ds, v => ∃ a vs, v = .ref a ∧ Rd G.F a (.lst vs) ∧ RepL G ds vs
  | .tup ds, v => ∃ a vs, v = .ref a ∧ SqT K G.F a vs ∧ RepL G ds vs
  | .ins c ns ds, v => ∃ a dx vs, v = .ref a ∧ G.F a = some (.ins (He.ga K c) dx (ns.zip vs)) ∧ ns.length = vs.length ∧ RepL G ds vs
  | .dct ks us, v => ∃ kvs a, v = .ref a ∧ G.F a = some (.dK kvs) ∧ DctOf ks us kvs
  | .src, v => ∃ a, v = .ref a ∧ Src G.F a
  | .src1, v => ∃ a, v = .ref a ∧ SrcC G.F a
  | .scr ds, v => ∃ a vs, v = .ref a ∧ SqL K G.F a vs ∧ RepL G ds vs
  | .cell i, v => ∃ p, G.A[i]? = some p ∧ p.1 ≠ p.2 ∧ v = .ref p.1
  | .cls c, v => v = .ref (He.ga K c)
  | .ty n, v => v = .ty n
  | .lam o q _, v => ∃ f c', v = .ref f ∧ G.F f = some (o f c') ∧ G.F c' = some (LamX.CodeO c' q)
  | .xn c ns ds, v => ∃ a d vs, v = .ref a ∧ G.F a = some (ExvO (.ref (He.ga K c)) d a) ∧ ((ns = [] ∧ d = none) ∨ ∃ dd, d = some dd ∧ G.F dd = some (.xd (ns.zip vs))) ∧ ns.length = vs.length ∧ RepL G ds vs
  | .fl _, _ => False
def RepL (G : Gd) : List D → List V → Prop
  | [], vs => vs = []
  | d :: ds, vs => ∃ v r, vs = v :: r ∧ Rep G d v ∧ RepL G ds r
end
end
section
variable {K : Frag} {G G' : Gd}
theorem rd_le {F F' : Hp} {a : Addr} {u : HO} (e : ∀ a o, F a = some o → F' a = some o) (h : Rd F a u) : Rd F' a u := by
  rcases h with h | ⟨o, h⟩
  · exact .inl (e _ _ h)
  · exact .inr ⟨o, e _ _ h⟩
theorem sqL_le {a : Addr} {xs : List V} (e : ∀ a o, G.F a = some o → G'.F a = some o) (h : SqL K G.F a xs) : SqL K G'.F a xs := Same.seq (H := G.F) (H' := G'.F) e h
theorem sqT_le {F F' : Hp} {a : Addr} {xs : List V} (e : ∀ a o, F a = some o → F' a = some o) (h : SqT K F a xs) : SqT K F' a xs := by
  rcases h with (h | ⟨o, h⟩) | h
  · exact .inl (.inl (e _ _ h))
  · exact .inl (.inr ⟨o, e _ _ h⟩)
  · exact .inr h
mutual
theorem Rep.le (e : Gle G G') : ∀ (d : D) {v : V}, Rep K G d v → Rep K G' d v
  | .non, _, h => by unfold Rep at h ⊢; exact h
  | .bl _, _, h => by unfold Rep at h ⊢; exact h
  | .int _, _, h => by unfold Rep at h ⊢; exact h
  | .str _, _, h => by unfold Rep at h ⊢; exact h
  | .byt _, _, h => by unfold Rep at h ⊢; exact h
  | .lst ds, _, h => by
    unfold Rep at h ⊢
    obtain ⟨a, vs, h1, h2, h3⟩ := h
    exact ⟨a, vs, h1, rd_le e.f h2, RepL.le e ds h3⟩
  | .tup ds, _, h => by
    unfold Rep at h ⊢
    obtain ⟨a, vs, h1, h2, h3⟩ := h
    exact ⟨a, vs, h1, sqT_le e.f h2, RepL.le e ds h3⟩
  | .ins _ _ ds, _, h => by
    unfold Rep at h ⊢
    obtain ⟨a, dx, vs, h1, h2, h3, h4⟩ := h
    exact ⟨a, dx, vs, h1, e.f _ _ h2, h3, RepL.le e ds h4⟩
  | .dct _ _, _, h => by
    unfold Rep at h ⊢
    obtain ⟨kvs, a, h1, h2, h3⟩ := h
    exact ⟨kvs, a, h1, e.f _ _ h2, h3⟩
  | .src, _, h => by
    unfold Rep at h ⊢
    obtain ⟨a, h1, h2⟩ := h
    exact ⟨a, h1, e.f _ _ h2⟩
  | .src1, _, h => by
    unfold Rep at h ⊢
    obtain ⟨a, h1, h2⟩ := h
    exact ⟨a, h1, e.f _ _ h2⟩
  | .scr ds, _, h => by
    unfold Rep at h ⊢
    obtain ⟨a, vs, h1, h2, h3⟩ := h
    exact ⟨a, vs, h1, sqL_le e.f h2, RepL.le e ds h3⟩
  | .cell i, _, h => by
    unfold Rep at h ⊢
    obtain ⟨p, h1, h2⟩ := h
    obtain ⟨t, ht⟩ := e.a
    refine ⟨p, ?_, h2⟩
    rw [← ht, List.getElem?_append_left (List.getElem?_eq_some_iff.mp h1).1]
    exact h1
  | .cls _, _, h => by unfold Rep at h ⊢; exact h
  | .ty _, _, h => by unfold Rep at h ⊢; exact h
  | .lam _ _ _, _, h => by
    unfold Rep at h ⊢
    obtain ⟨f, c', h1, h2, h3⟩ := h
    exact ⟨f, c', h1, e.f _ _ h2, e.f _ _ h3⟩
  | .xn _ _ ds, _, h => by
    unfold Rep at h ⊢
    obtain ⟨a, d, vs, h1, h2, h3, h4, h5⟩ := h
    refine ⟨a, d, vs, h1, e.f _ _ h2, ?_, h4, RepL.le e ds h5⟩
    rcases h3 with h3 | ⟨dd, h6, h7⟩
    · exact .inl h3
    · exact .inr ⟨dd, h6, e.f _ _ h7⟩
  | .fl _, _, h => by unfold Rep at h; exact h.elim
theorem RepL.le (e : Gle G G') : ∀ (ds : List D) {vs : List V}, RepL K G ds vs → RepL K G' ds vs
  | [], _, h => by unfold RepL at h ⊢; exact h
  | d :: ds, _, h => by
    unfold RepL at h ⊢
    obtain ⟨v, r, h1, h2, h3⟩ := h
    exact ⟨v, r, h1, Rep.le e d h2, RepL.le e ds h3⟩
end
theorem RepL.length : ∀ {ds : List D} {vs : List V}, RepL K G ds vs → vs.length = ds.length
  | [], _, h => by unfold RepL at h; rw [h]; rfl
  | d :: ds, _, h => by
    unfold RepL at h
    obtain ⟨v, r, rfl, _, h3⟩ := h
    rw [List.length_cons, List.length_cons, RepL.length h3]
theorem RepL.get : ∀ {ds : List D} {vs : List V} {i : Nat} {d : D}, RepL K G ds vs → ds[i]? = some d → ∃ v, vs[i]? = some v ∧ Rep K G d v
  | [], _, _, _, _, e => by simp at e
  | d :: ds, _, 0, _, h, e => by
    unfold RepL at h
    obtain ⟨v, r, rfl, h2, h3⟩ := h
    simp at e; subst e
    exact ⟨v, rfl, h2⟩
  | d :: ds, _, i + 1, _, h, e => by
    unfold RepL at h
    obtain ⟨v, r, rfl, h2, h3⟩ := h
    exact RepL.get (i := i) h3 (by simpa using e)
theorem RepL.append : ∀ {ds es : List D} {vs ws : List V}, RepL K G ds vs → RepL K G es ws → RepL K G (ds ++ es) (vs ++ ws)
  | [], _, _, _, h, t => by unfold RepL at h; rw [h]; exact t
  | d :: ds, _, _, _, h, t => by
    unfold RepL at h
    obtain ⟨v, r, rfl, h2, h3⟩ := h
    show RepL K G (d :: (ds ++ _)) (v :: (r ++ _))
    unfold RepL
    exact ⟨v, _, rfl, h2, RepL.append h3 t⟩
theorem RepL.nil : RepL K G [] [] := by unfold RepL; rfl
theorem RepL.cons {d : D} {ds : List D} {v : V} {vs : List V} (h : Rep K G d v) (t : RepL K G ds vs) : RepL K G (d :: ds) (v :: vs) := by
  unfold RepL; exact ⟨v, vs, rfl, h, t⟩
theorem RepL.take : ∀ {ds : List D} {vs : List V} (n : Nat), RepL K G ds vs → RepL K G (ds.take n) (vs.take n)
  | _, _, 0, _ => RepL.nil
  | [], _, _ + 1, h => by unfold RepL at h; rw [h]; exact RepL.nil
  | d :: ds, _, n + 1, h => by
    unfold RepL at h
    obtain ⟨v, r, rfl, h2, h3⟩ := h
    exact RepL.cons h2 (RepL.take n h3)
theorem RepL.drop : ∀ {ds : List D} {vs : List V} (n : Nat), RepL K G ds vs → RepL K G (ds.drop n) (vs.drop n)
  | _, _, 0, h => h
  | [], _, _ + 1, h => by unfold RepL at h; rw [h]; exact RepL.nil
  | d :: ds, _, n + 1, h => by
    unfold RepL at h
    obtain ⟨v, r, rfl, h2, h3⟩ := h
    exact RepL.drop n h3
theorem RepL.reverse : ∀ {ds : List D} {vs : List V}, RepL K G ds vs → RepL K G ds.reverse vs.reverse
  | [], _, h => by unfold RepL at h; rw [h]; exact RepL.nil
  | d :: ds, _, h => by
    unfold RepL at h
    obtain ⟨v, r, rfl, h2, h3⟩ := h
    rw [List.reverse_cons, List.reverse_cons]
    exact RepL.append (RepL.reverse h3) (RepL.cons h2 RepL.nil)
theorem RepL.set : ∀ {ds : List D} {vs : List V} (i : Nat) {d : D} {v : V}, RepL K G ds vs → Rep K G d v → RepL K G (ds.set i d) (vs.set i v)
  | [], _, _, _, _, h, _ => by unfold RepL at h; rw [h]; exact RepL.nil
  | _ :: ds, _, 0, _, _, h, q => by
    unfold RepL at h
    obtain ⟨v, r, rfl, h2, h3⟩ := h
    exact RepL.cons q h3
  | _ :: ds, _, i + 1, _, _, h, q => by
    unfold RepL at h
    obtain ⟨v, r, rfl, h2, h3⟩ := h
    exact RepL.cons h2 (RepL.set i h3 q)
theorem RepL.flat : ∀ {ds : List D} {vs : List V} (n : Nat), RepL K G ds vs → RepL K G (List.replicate n ds).flatten (List.replicate n vs).flatten
  | _, _, 0, _ => RepL.nil
  | _, _, n + 1, h => by
    rw [List.replicate_succ, List.replicate_succ, List.flatten_cons, List.flatten_cons]
    exact RepL.append h (RepL.flat n h)
end
def RepX (K : Frag) (G : Gd) (x : Xn) (c : Value) (d : Option Addr) : Prop :=
  c = .ref (He.ga K x.c) ∧ x.ns.length = x.ds.length ∧ ((x.ns = [] ∧ d = none) ∨ ∃ dd vs, d = some dd ∧ G.F dd = some (.xd (x.ns.zip vs)) ∧ x.ns.length = vs.length ∧ RepL K G x.ds vs)
theorem RepX.le {K : Frag} {G G' : Gd} (e : Gle G G') {x : Xn} {c : Value} {d : Option Addr} (h : RepX K G x c d) : RepX K G' x c d := by
  obtain ⟨h1, h2, h3⟩ := h
  refine ⟨h1, h2, ?_⟩
  rcases h3 with h3 | ⟨dd, vs, a, b, c', r⟩
  · exact .inl h3
  · exact .inr ⟨dd, vs, a, e.f _ _ b, c', RepL.le e _ r⟩
structure Wd extends Gd where
  H : Hp
  C : Addr → Prop
  S : Sv
  me : Option (Addr × Addr)
  cur : Option (Addr × Value × Option Addr)
  fn : Option Addr
  ro : Bool
def rowsT (rows : List ((Int × Int) × Str)) : List (List Key × V) := rows.map fun r => ([.inl r.1.1, .inl r.1.2], .str r.2)
def CellAt (K : Frag) (F H : Hp) (p : Addr × Addr) : Cell → Prop
  | .tb x q => p.1 = (tabK K x).2 ∧ p.2 = p.1 ∧ ∃ ps : Array Value, H p.1 = some (.tbl ps) ∧ TriplesOk ps.toList ∧ ∀ (pos : Pos) (cv : Value), codeAmong pos ps.toList = some cv → ∃ c, cv = .ref c ∧ F c = some (LamX.CodeO c q)
  | .bk ver rows => ∃ dx, H p.1 = some (.ins (He.ga K "Book") dx [("version", .int ver), ("width", .int (if ver = 4 then 32 else 128)), ("rows", .ref p.2)]) ∧ H p.2 = some (.dT (rowsT rows))
  | .bz ver rows => ∃ dx u, H p.1 = some (.ins (He.ga K "Book") dx [("version", .int ver), ("width", .int (if ver = 4 then 32 else 128)), ("rows", .ref p.2)]) ∧ H p.2 = some (.frz u (.dT (rowsT rows)))
structure Wok (K : Frag) (w : Wd) : Prop where
  le : ∀ a o, w.F a = some o → w.H a = some o
  fc : ∀ a, w.C a → w.F a = none
  ch : ∀ a, w.C a → w.H a ≠ none
  len : w.A.length = w.S.length
  cell : ∀ (i : Nat) p c, w.A[i]? = some p → w.S[i]? = some c → CellAt K w.F w.H p c ∧ w.C p.1 ∧ w.C p.2
  inj : ∀ (i j : Nat) p q, w.A[i]? = some p → w.A[j]? = some q → i ≠ j → p.1 ≠ q.1 ∧ p.2 ≠ q.2
  ne : ∀ (i j : Nat) p q, w.A[i]? = some p → w.A[j]? = some q → i ≠ j → p.1 ≠ q.2
  nt : ∀ a vs, w.C a → w.H a ≠ some (.tup vs)
structure Step (K : Frag) (w w' : Wd) : Prop where
  ok : Wok K w'
  f : ∀ a o, w.F a = some o → w'.F a = some o
  a : w.A <+: w'.A
  h : ∀ a o, w.H a = some o → ¬ w.C a → w'.H a = some o
  c : ∀ a, w.C a → w'.C a
  cn : ∀ a, w'.C a → w.C a ∨ w.H a = none
  fn : ∀ a o, w'.F a = some o → w.F a = some o ∨ w.H a = none ∨ ∃ vs, w.H a = some (.tup vs)
section
variable {K : Frag} {w w1 w2 : Wd}
theorem Step.refl (ok : Wok K w) : Step K w w := ⟨ok, fun _ _ h => h, List.prefix_refl _, fun _ _ h _ => h, fun _ h => h, fun _ h => .inl h, fun _ _ h => .inl h⟩
theorem Step.le (x : Step K w w1) : Gle w.toGd w1.toGd := ⟨x.f, x.a⟩
theorem Step.back (x : Step K w w1) {a : Addr} (h : w1.H a = none) : w.H a = none := by
  cases e : w.H a with
  | none => rfl
  | some o =>
    by_cases c : w.C a
    · exact absurd h (x.ok.ch a (x.c a c))
    · rw [x.h a o e c] at h; cases h
theorem Step.backT (x : Step K w w1) {a : Addr} {vs : List V} (h : w1.H a = some (.tup vs)) : w.H a = none ∨ ∃ vs, w.H a = some (.tup vs) := by
  cases e : w.H a with
  | none => exact .inl rfl
  | some o =>
    by_cases c : w.C a
    · exact absurd h (x.ok.nt a vs (x.c a c))
    · rw [x.h a o e c] at h; exact .inr ⟨vs, h⟩
theorem Step.trans (x : Step K w w1) (y : Step K w1 w2) : Step K w w2 where
  ok := y.ok
  f := fun a o h => y.f a o (x.f a o h)
  a := x.a.trans y.a
  h := fun a o h c => y.h a o (x.h a o h c) (fun z => (x.cn a z).elim c (fun q => by rw [q] at h; cases h))
  c := fun a h => y.c a (x.c a h)
  cn := fun a h => (y.cn a h).elim (fun z => x.cn a z) (fun z => .inr (x.back z))
  fn := fun a o h => (y.fn a o h).elim (fun z => x.fn a o z) (fun z => z.elim (fun z => .inr (.inl (x.back z))) (fun ⟨_, z⟩ => .inr (x.backT z)))
def Wd.lay (w : Wd) (p : Addr) (o : HO) : Wd := { w with F := upd w.F p o, H := upd w.H p o }
def Wd.put (w : Wd) (p : Addr) (o : HO) : Wd := { w with H := upd w.H p o }
theorem Wok.fnone (x : Wok K w) {p : Addr} (h : w.H p = none) : w.F p = none := by
  cases e : w.F p with
  | none => rfl
  | some o => rw [x.le p o e] at h; cases h
theorem cellAt_keep {F F' H H' : Hp} {p : Addr × Addr} {c : Cell} (h1 : ∀ o, H p.1 = some o → H' p.1 = some o) (h2 : ∀ o, H p.2 = some o → H' p.2 = some o) (h : CellAt K F H p c) (hF : ∀ a x q, F a = some (LamX.CodeO x q) → F' a = some (LamX.CodeO x q)) : CellAt K F' H' p c := by
  cases c with
  | tb x q =>
    obtain ⟨e1, e2, ps, a, b, d⟩ := h
    refine ⟨e1, e2, ps, h1 _ a, b, fun pos cv hc => ?_⟩
    obtain ⟨c, e, f⟩ := d pos cv hc
    exact ⟨c, e, hF _ _ _ f⟩
  | bk ver rows =>
    obtain ⟨dx, a, b⟩ := h
    exact ⟨dx, h1 _ a, h2 _ b⟩
  | bz ver rows =>
    obtain ⟨dx, u, a, b⟩ := h
    exact ⟨dx, u, h1 _ a, h2 _ b⟩
theorem Wok.lay (x : Wok K w) {p : Addr} {o : HO} (h : w.H p = none) : Wok K (w.lay p o) where
  le := fun a u e => by
    by_cases z : a = p
    · subst z
      have e : upd w.F a o a = some u := e
      show upd w.H a o a = some u
      rw [upd_same] at e ⊢; exact e
    · have e : upd w.F p o a = some u := e
      show upd w.H p o a = some u
      rw [upd_ne z] at e ⊢; exact x.le a u e
  fc := fun a c => by
    have z : a ≠ p := fun z => by subst z; exact x.ch a c h
    show upd w.F p o a = none
    rw [upd_ne z]; exact x.fc a c
  ch := fun a c => by
    have z : a ≠ p := fun z => by subst z; exact x.ch a c h
    show upd w.H p o a ≠ none
    rw [upd_ne z]; exact x.ch a c
  len := x.len
  cell := fun i q c e1 e2 => by
    obtain ⟨a, b, d⟩ := x.cell i q c e1 e2
    refine ⟨cellAt_keep (fun u e => ?_) (fun u e => ?_) a (fun b _ _ e => ?_), b, d⟩
    · show upd w.H p o q.1 = some u
      rw [upd_ne (fun z => by rw [z, h] at e; cases e)]; exact e
    · show upd w.H p o q.2 = some u
      rw [upd_ne (fun z => by rw [z, h] at e; cases e)]; exact e
    · show upd w.F p o b = _
      rw [upd_ne (fun z => by rw [z, x.fnone h] at e; cases e)]; exact e
  inj := x.inj
  ne := x.ne
  nt := fun a vs c => by
    have z : a ≠ p := fun z => by subst z; exact x.ch a c h
    show upd w.H p o a ≠ some (.tup vs)
    rw [upd_ne z]; exact x.nt a vs c
theorem Step.lay (ok : Wok K w) {p : Addr} {o : HO} (h : w.H p = none) : Step K w (w.lay p o) where
  ok := ok.lay h
  f := fun a u e => by
    show upd w.F p o a = some u
    rw [upd_ne (fun z => by rw [z, ok.fnone h] at e; cases e)]; exact e
  a := List.prefix_refl _
  h := fun a u e _ => by
    show upd w.H p o a = some u
    rw [upd_ne (fun z => by rw [z, h] at e; cases e)]; exact e
  c := fun _ c => c
  cn := fun _ c => .inl c
  fn := fun a u e => by
    by_cases z : a = p
    · right; left; rw [z]; exact h
    · left
      have e : upd w.F p o a = some u := e
      rw [upd_ne z] at e; exact e
theorem Wok.put (x : Wok K w) {p : Addr} {o : HO} (h : w.F p = none) (hc : ¬ w.C p) : Wok K (w.put p o) where
  le := fun a u e => by
    have e : w.F a = some u := e
    show upd w.H p o a = some u
    rw [upd_ne (fun z => by rw [z, h] at e; cases e)]; exact x.le a u e
  fc := x.fc
  ch := fun a c => by
    have z : a ≠ p := fun z => by subst z; exact hc c
    show upd w.H p o a ≠ none
    rw [upd_ne z]; exact x.ch a c
  len := x.len
  cell := fun i q c e1 e2 => by
    obtain ⟨a, b, d⟩ := x.cell i q c e1 e2
    refine ⟨cellAt_keep (fun u e => ?_) (fun u e => ?_) a (fun _ _ _ e => e), b, d⟩
    · show upd w.H p o q.1 = some u
      rw [upd_ne (fun (z : q.1 = p) => hc (by rw [← z]; exact b))]; exact e
    · show upd w.H p o q.2 = some u
      rw [upd_ne (fun (z : q.2 = p) => hc (by rw [← z]; exact d))]; exact e
  inj := x.inj
  ne := x.ne
  nt := fun a vs c => by
    have z : a ≠ p := fun z => by subst z; exact hc c
    show upd w.H p o a ≠ some (.tup vs)
    rw [upd_ne z]; exact x.nt a vs c
end
def SlotOk (K : Frag) (w0 w : Wd) : Sl → Option V → Prop
  | .un, _ => True
  | .sh d, o => ∃ v, o = some v ∧ Rep K w.toGd d v
  | .ol ds, o => ∃ a vs, o = some (.ref a) ∧ w.H a = some (.lst vs) ∧ w.F a = none ∧ ¬ w.C a ∧ w0.H a = none ∧ RepL K w.toGd ds vs
  | .oi c ns ds, o => ∃ a dx vs, w0.me = some (a, dx) ∧ o = some (.ref a) ∧ w.H a = some (.ins (He.ga K c) dx (ns.zip vs)) ∧ w.F a = none ∧ ¬ w.C a ∧ w0.H a = none ∧ ns.length = vs.length ∧ RepL K w.toGd ds vs
  | .ex x, o => ∃ a c d, w0.cur = some (a, c, d) ∧ o = some (.ref a) ∧ RepX K w.toGd x c d
  | .fn, o => ∃ a, w0.fn = some a ∧ o = some (.ref a)
structure Good (K : Frag) (w0 w : Wd) (ρ : Rh) (σ : L2.St) : Prop where
  len : ρ.length = σ.length
  at_ : ∀ (i : Nat) s, ρ[i]? = some s → SlotOk K w0 w s (σ[i]?.join)
  ne : ∀ (i j : Nat) s t a, i ≠ j → ρ[i]? = some s → ρ[j]? = some t → s.own = true → t.own = true → σ[i]? = some (some (.ref a)) → σ[j]? ≠ some (some (.ref a))
theorem Good.step {K : Frag} {w0 w w' : Wd} {ρ : Rh} {σ : L2.St} (g : Good K w0 w ρ σ) (x : Step K w w') : Good K w0 w' ρ σ where
  len := g.len
  at_ := fun i s e => by
    have h := g.at_ i s e
    have keep : ∀ a o, w.H a = some o → w.F a = none → ¬ w.C a → (∀ vs, o ≠ .tup vs) → w'.H a = some o ∧ w'.F a = none ∧ ¬ w'.C a := fun a o h1 h2 h3 h4 => by
      have ht : (w.H a = none ∨ ∃ vs, w.H a = some (.tup vs)) → False := fun q => q.elim (fun q => by rw [q] at h1; cases h1) (fun ⟨vs, q⟩ => h4 vs (Option.some.inj (h1.symm.trans q)))
      refine ⟨x.h a o h1 h3, ?_, fun z => (x.cn a z).elim h3 (fun q => by rw [q] at h1; cases h1)⟩
      cases e : w'.F a with
      | none => rfl
      | some u => exact (x.fn a u e).elim (fun q => by rw [q] at h2; cases h2) (fun q => (ht q).elim)
    cases s with
    | un => trivial
    | fn => exact h
    | ex y =>
      obtain ⟨a, c, d, h1, h2, h3⟩ := h
      exact ⟨a, c, d, h1, h2, h3.le x.le⟩
    | sh d =>
      obtain ⟨v, h1, h2⟩ := h
      exact ⟨v, h1, Rep.le x.le d h2⟩
    | ol ds =>
      obtain ⟨a, vs, h1, h2, h3, h4, h5, h6⟩ := h
      obtain ⟨k1, k2, k3⟩ := keep a _ h2 h3 h4 (fun _ z => nomatch z)
      exact ⟨a, vs, h1, k1, k2, k3, h5, RepL.le x.le _ h6⟩
    | oi c ns ds =>
      obtain ⟨a, dx, vs, h0, h1, h2, h3, h4, h5, h6, h7⟩ := h
      obtain ⟨k1, k2, k3⟩ := keep a _ h2 h3 h4 (fun _ z => nomatch z)
      exact ⟨a, dx, vs, h0, h1, k1, k2, k3, h5, h6, RepL.le x.le _ h7⟩
  ne := g.ne
structure At (K : Frag) (w0 w : Wd) (ρ : Rh) (σ : L2.St) : Prop where
  st : Step K w0 w
  good : Good K w0 w ρ σ
theorem At.step {K : Frag} {w0 w w' : Wd} {ρ : Rh} {σ : L2.St} (a : At K w0 w ρ σ) (x : Step K w w') : At K w0 w' ρ σ := ⟨a.st.trans x, a.good.step x⟩
structure Nw (K : Frag) (w0 w w' : Wd) (ρ : Rh) (σ : L2.St) : Prop where
  at_ : At K w0 w' ρ σ
  le : Gle w.toGd w'.toGd
theorem Nw.trans {K : Frag} {w0 w w1 w2 : Wd} {ρ ρ' : Rh} {σ σ' : L2.St} (a : Nw K w0 w w1 ρ σ) (b : Nw K w0 w1 w2 ρ' σ') : Nw K w0 w w2 ρ' σ' := ⟨b.at_, a.le.trans b.le⟩
theorem At.nw {K : Frag} {w0 w w' : Wd} {ρ : Rh} {σ : L2.St} (a : At K w0 w ρ σ) (x : Step K w w') : Nw K w0 w w' ρ σ := ⟨a.step x, x.le⟩
structure Nx (K : Frag) (w0 w w' : Wd) (ρ : Rh) (σ : L2.St) : Prop where
  at_ : At K w0 w' ρ σ
  st : Step K w w'
theorem Nx.le {K : Frag} {w0 w w' : Wd} {ρ : Rh} {σ : L2.St} (n : Nx K w0 w w' ρ σ) : Gle w.toGd w'.toGd := n.st.le
theorem Nx.nw {K : Frag} {w0 w w' : Wd} {ρ : Rh} {σ : L2.St} (n : Nx K w0 w w' ρ σ) : Nw K w0 w w' ρ σ := ⟨n.at_, n.le⟩
theorem Nx.trans {K : Frag} {w0 w w1 w2 : Wd} {ρ ρ' : Rh} {σ σ' : L2.St} (a : Nx K w0 w w1 ρ σ) (b : Nx K w0 w1 w2 ρ' σ') : Nx K w0 w w2 ρ' σ' := ⟨b.at_, a.st.trans b.st⟩
theorem At.nx {K : Frag} {w0 w w' : Wd} {ρ : Rh} {σ : L2.St} (a : At K w0 w ρ σ) (x : Step K w w') : Nx K w0 w w' ρ σ := ⟨a.step x, x⟩
theorem At.here {K : Frag} {w0 w : Wd} {ρ : Rh} {σ : L2.St} (a : At K w0 w ρ σ) : Nx K w0 w w ρ σ := ⟨a, Step.refl a.st.ok⟩
def RetOk (K : Frag) (w0 w : Wd) (d : D) (v : V) : Prop := Rep K w.toGd d v ∨ (w0.ro = true ∧ ∃ a vs ds, d = .fl ds ∧ v = .ref a ∧ w.H a = some (.lst vs) ∧ w.F a = none ∧ ¬ w.C a ∧ w0.H a = none ∧ RepL K w.toGd ds vs)
def Wd.plain (w : Wd) : Wd := { w with ro := false }
theorem RetOk.rep {K : Frag} {w0 w : Wd} {d : D} {v : V} (h : RetOk K w0 w d v) (ho : w0.ro = false) : Rep K w.toGd d v := by
  rcases h with h | ⟨h, _⟩
  · exact h
  · rw [ho] at h; cases h
theorem Wok.plain {K : Frag} {w : Wd} (x : Wok K w) : Wok K w.plain := ⟨x.le, x.fc, x.ch, x.len, x.cell, x.inj, x.ne, x.nt⟩
theorem Step.unplain {K : Frag} {w w' : Wd} (x : Step K w.plain w') : Step K w w' := ⟨x.ok, x.f, x.a, x.h, x.c, x.cn, x.fn⟩
section
variable (K : Frag) (w0 : Wd) (W : WX)
def Run {α : Type} (R : Gd → α → V → Prop) (σ : L2.St) (ρ : Rh) (w : Wd) (m : M α) (Q : VK) : Prop :=
  m w.S (fun d S' => ∀ w' v, w'.S = S' → Nx K w0 w w' ρ σ → R w'.toGd d v → Q v w'.H) (fun x S' => ∀ w' c d, w'.S = S' → Nx K w0 w w' ρ σ → RepX K w'.toGd x c d → W c d σ w'.H)
def tD (m : Rh → M D) : TE := fun σ H Q => ∃ w ρ, w.H = H ∧ At K w0 w ρ σ ∧ Run K w0 W (Rep K) σ ρ w (m ρ) Q
def RunB (σ : L2.St) (ρ : Rh) (w : Wd) (m : M Bool) (Q : Bool → Hp → Prop) : Prop :=
  m w.S (fun b S' => ∀ w', w'.S = S' → Nx K w0 w w' ρ σ → Q b w'.H) (fun x S' => ∀ w' c d, w'.S = S' → Nx K w0 w w' ρ σ → RepX K w'.toGd x c d → W c d σ w'.H)
def tB (m : Rh → M Bool) : TT := fun σ H Q => ∃ w ρ, w.H = H ∧ At K w0 w ρ σ ∧ RunB K w0 W σ ρ w (m ρ) Q
def RunA (σ : L2.St) (ρ : Rh) (w : Wd) (m : M (List D)) (Q : List V → Hp → Prop) : Prop :=
  m w.S (fun ds S' => ∀ w' vs, w'.S = S' → Nx K w0 w w' ρ σ → RepL K w'.toGd ds vs → Q vs w'.H) (fun x S' => ∀ w' c d, w'.S = S' → Nx K w0 w w' ρ σ → RepX K w'.toGd x c d → W c d σ w'.H)
def tA (m : Rh → M (List D)) : TA := fun σ H Q => ∃ w ρ, w.H = H ∧ At K w0 w ρ σ ∧ RunA K w0 W σ ρ w (m ρ) Q
def endsD (w : Wd) (D : Ends) : EndsD where
  nx := fun ρ' S' => ∀ w' σ', w'.S = S' → Nw K w0 w w' ρ' σ' → D.nx σ' w'.H
  rt := fun d S' => ∀ w' v, w'.S = S' → Step K w0 w' → RetOk K w0 w' d v → D.rt v w'.H
  bk := fun ρ' S' => ∀ w' σ', w'.S = S' → Nw K w0 w w' ρ' σ' → D.bk σ' w'.H
  ct := fun ρ' S' => ∀ w' σ', w'.S = S' → Nw K w0 w w' ρ' σ' → D.ct σ' w'.H
  ex := fun x ρ' S' => ∀ w' σ' c d, w'.S = S' → Nw K w0 w w' ρ' σ' → RepX K w'.toGd x c d → W c d σ' w'.H
def tS (m : Sm) : TS := fun D σ H => ∃ w ρ, w.H = H ∧ At K w0 w ρ σ ∧ m ρ w.S (endsD K w0 W w D)
end
structure DE (K : Frag) (w0 : Wd) (W : WX) (X : Cx) (e : Expr) (m : Rh → M D) : Prop where
  mono : ∀ ρ, Mono (m ρ)
  pe : PE X e (tD K w0 W m)
structure DT (K : Frag) (w0 : Wd) (W : WX) (X : Cx) (e : Expr) (m : Rh → M Bool) : Prop where
  mono : ∀ ρ, Mono (m ρ)
  pt : PT X e (tB K w0 W m)
structure DA (K : Frag) (w0 : Wd) (W : WX) (X : Cx) (es : List Expr) (m : Rh → M (List D)) : Prop where
  mono : ∀ ρ, Mono (m ρ)
  pa : PA X es (tA K w0 W m)
structure DS (K : Frag) (w0 : Wd) (W : WX) (X : Cx) (st : Stmt) (m : Sm) : Prop where
  mono : MonoS m
  ps : PS X st (tS K w0 W m)
structure DSs (K : Frag) (w0 : Wd) (W : WX) (X : Cx) (st : List Stmt) (m : Sm) : Prop where
  mono : MonoS m
  ps : PSs X st (tS K w0 W m)
theorem PE.imp {X : Cx} {e : Expr} {t t' : TE} (h : PE X e t) (i : ∀ σ H Q, t' σ H Q → t σ H Q) : PE X e t' := ⟨fun pins s σ H Q I q => h.run pins s σ H Q I (i _ _ _ q)⟩
theorem PT.imp {X : Cx} {e : Expr} {t t' : TT} (h : PT X e t) (i : ∀ σ H Q, t' σ H Q → t σ H Q) : PT X e t' := ⟨fun pins s σ H Q I q => h.run pins s σ H Q I (i _ _ _ q)⟩
theorem PA.imp {X : Cx} {e : List Expr} {t t' : TA} (h : PA X e t) (i : ∀ σ H Q, t' σ H Q → t σ H Q) : PA X e t' := ⟨fun pos pins s σ H Q I q => h.run pos pins s σ H Q I (i _ _ _ q)⟩
theorem PS.imp {X : Cx} {e : Stmt} {t t' : TS} (h : PS X e t) (i : ∀ D σ H, t' D σ H → t D σ H) : PS X e t' := ⟨fun pins s σ H D I q => h.run pins s σ H D I (i _ _ _ q)⟩
theorem PSs.imp {X : Cx} {e : List Stmt} {t t' : TS} (h : PSs X e t) (i : ∀ D σ H, t' D σ H → t D σ H) : PSs X e t' := ⟨fun pins s σ H D I q => h.run pins s σ H D I (i _ _ _ q)⟩
section
variable {K : Frag} {w0 w w1 : Wd} {W : WX} {ρ : Rh} {σ : L2.St}
theorem Run.bind {α : Type} {R : Gd → α → V → Prop} {m : M D} {k : D → M α} {Q : VK} {R' : VK} (hm : Mono m) (hk : ∀ d, Mono (k d)) (h : Run K w0 W R σ ρ w (bind m k) Q)
    (f : ∀ w' v d, Nx K w0 w w' ρ σ → Rep K w'.toGd d v → Run K w0 W R σ ρ w' (k d) Q → R' v w'.H) : Run K w0 W (Rep K) σ ρ w m R' := by
  refine hm _ _ _ _ _ (fun d S' q w' v e n r => f w' v d n r ?_) (fun x S' q => q) h
  subst e
  exact hk d _ _ _ _ _ (fun a S'' q' w'' v' e n' r' => q' w'' v' e (n.trans n') r') (fun x S'' q' w'' c d' e n' r' => q' w'' c d' e (n.trans n') r') q
theorem Run.mono {α : Type} {R : Gd → α → V → Prop} {m : M α} {Q Q' : VK} (hm : Mono m) (h : Run K w0 W R σ ρ w m Q) (f : ∀ v w', Nx K w0 w w' ρ σ → Q v w'.H → Q' v w'.H) : Run K w0 W R σ ρ w m Q' :=
  hm _ _ _ _ _ (fun _ _ q w' v e n r => f v w' n (q w' v e n r)) (fun _ _ q => q) h
end
end Dn

namespace Dn
open PySem PySem.W PySem.Spec PyProof.Rows L2 TL Bits An
section
variable {K : Frag} {w0 w w1 : Wd} {W : WX} {X : Cx} {ρ : Rh} {σ : L2.St} {pins : List (Addr × Obj)} {s : Shared} {pos : Pos}
def Got {α : Type} (K : Frag) (w0 : Wd) (W : WX) (X : Cx) (R : Gd → α → V → Prop) (pins : List (Addr × Obj)) (σ : L2.St) (ρ : Rh) (w : Wd) (k : D → M α) (Q : VK) (u : Value) (s' : Shared) : Prop :=
  ∃ v d w', Inv X pins σ w'.H s' ∧ Nx K w0 w w' ρ σ ∧ RelV v u ∧ Rep K w'.toGd d v ∧ Run K w0 W R σ ρ w' (k d) Q
theorem DE.go {e : Expr} {m : Rh → M D} (h : DE K w0 W X e m) {α : Type} {R : Gd → α → V → Prop} {k : D → M α} {Q : VK} (hk : ∀ d, Mono (k d)) (I : Inv X pins σ w.H s) (at_ : At K w0 w ρ σ) (r : Run K w0 W R σ ρ w (bind (m ρ) k) Q) :
    wpAny (model X.prog X.w) X.A (eval e X.env) (Got K w0 W X R pins σ ρ w k Q) X.xe s := by
  refine thn (h.pe.run pins s σ w.H (fun v H' => ∃ d w', w'.H = H' ∧ Nx K w0 w w' ρ σ ∧ Rep K w'.toGd d v ∧ Run K w0 W R σ ρ w' (k d) Q) I ⟨w, ρ, rfl, at_, ?_⟩) ?_
  · exact Run.bind (h.mono ρ) hk r (fun w' v d n rr q => ⟨d, w', rfl, n, rr, q⟩)
  · rintro u s' ⟨v, H', I', rv, d, w', rfl, n, rr, q⟩
    exact ⟨v, d, w', I', n, rv, rr, q⟩
theorem DE.of {e : Expr} {m : Rh → M D} (hm : ∀ ρ, Mono (m ρ)) (h : ∀ (pins : List (Addr × Obj)) (s : Shared) (σ : L2.St) (ρ : Rh) (w : Wd) (Q : VK), Inv X pins σ w.H s → At K w0 w ρ σ → Run K w0 W (Rep K) σ ρ w (m ρ) Q →
    wpAny (model X.prog X.w) X.A (eval e X.env) (EP X pins σ Q) X.xe s) : DE K w0 W X e m := by
  refine ⟨hm, ⟨fun pins s σ H Q I hh => ?_⟩⟩
  obtain ⟨w, ρ, rfl, at_, r⟩ := hh
  exact h pins s σ ρ w Q I at_ r
theorem Run.fin {d : D} {v : V} {Q : VK} (at_ : At K w0 w ρ σ) (r : Run K w0 W (Rep K) σ ρ w (ret d) Q) (h : Rep K w.toGd d v) : Q v w.H := r w v rfl at_.here h
theorem Run.new {d : D} {o : HO} {Q : VK} {p : Addr} (at_ : At K w0 w ρ σ) (r : Run K w0 W (Rep K) σ ρ w (ret d) Q) (hp : w.H p = none) (h : Rep K (w.lay p o).toGd d (.ref p)) : Q (.ref p) (upd w.H p o) :=
  r (w.lay p o) (.ref p) rfl (at_.nx (Step.lay at_.st.ok hp)) h
def need {α : Type} (c : Prop) (m : M α) : M α := fun S Q E => c ∧ m S Q E
theorem mono_need {α : Type} {c : Prop} {m : M α} (h : Mono m) : Mono (need c m) := fun S Q Q' E E' q e x => ⟨x.1, h S Q Q' E E' q e x.2⟩
def rd (i : Nat) (ρ : Rh) : M D := match ρ[i]? with
  | some (.sh d) => ret d
  | _ => fail
theorem mono_rd {i : Nat} : Mono (rd i ρ) := by
  unfold rd
  split
  · exact mono_ret
  · exact mono_fail
theorem rd_ok {i : Nat} {Q : VK} (at_ : At K w0 w ρ σ) (r : Run K w0 W (Rep K) σ ρ w (rd i ρ) Q) : ∃ v, σ[i]? = some (some v) ∧ Q v w.H := by
  unfold rd at r
  split at r
  · rename_i d e
    obtain ⟨v, h1, h2⟩ := at_.good.at_ i _ e
    refine ⟨v, ?_, Run.fin at_ r h2⟩
    cases q : σ[i]? with
    | none => rw [q] at h1; cases h1
    | some o => rw [q] at h1; exact congrArg some h1
  · exact r.elim
theorem de_var (i : Nat) {x : Str} (hN : X.N[i]? = some x := by rfl) (hv : Vis X.env.scope x := by first | exact Or.inl rfl | exact Or.inr (Or.inl rfl) | exact Or.inr (Or.inr rfl)) (hd : (x == ("__debug__" : Str)) = false := by decide)
    (hcd : (x == ("__classdict__" : Str)) = false := by decide) : DE K w0 W X (.Name x pos) (rd i) := by
  refine ⟨fun ρ => mono_rd, PE.imp (pe_var hN hv hd hcd) fun σ H Q h => ?_⟩
  obtain ⟨w, ρ, rfl, at_, r⟩ := h
  exact rd_ok at_ r
def cD (d : D) : Rh → M D := fun _ => ret d
theorem de_const {e : Expr} {v : V} {d : D} (h : PE X e (tC v)) (r : ∀ G, Rep K G d v) : DE K w0 W X e (cD d) := by
  refine ⟨fun ρ => mono_ret, PE.imp h fun σ H Q h => ?_⟩
  obtain ⟨w, ρ, rfl, at_, q⟩ := h
  exact Run.fin at_ q (r _)
theorem de_int {i : Int} {j : Nat} : DE K w0 W X (.Constant (.int i) j pos) (cD (.int i)) := de_const pe_int fun _ => by unfold Rep; rfl
theorem de_bl {b : Bool} {j : Nat} : DE K w0 W X (.Constant (.bool b) j pos) (cD (.bl b)) := de_const pe_bl fun _ => by unfold Rep; rfl
theorem de_non {j : Nat} : DE K w0 W X (.Constant .none j pos) (cD .non) := de_const pe_non fun _ => by unfold Rep; rfl
theorem de_str {z : Str} {j : Nat} : DE K w0 W X (.Constant (.str z) j pos) (cD (.str z)) := de_const pe_str fun _ => by unfold Rep; rfl
theorem de_gi {x : Str} {i : Int} (hm : ∃ t, X.mg x = some (.int i t)) (hg : Gl X x := by rfl) (hd : (x == ("__debug__" : Str)) = false := by decide) : DE K w0 W X (.Name x pos) (cD (.int i)) := de_const (pe_gi hm hg hd) fun _ => by unfold Rep; rfl
theorem de_gs {x : Str} {z : Str} (hm : ∃ t, X.mg x = some (.str z t)) (hg : Gl X x := by rfl) (hd : (x == ("__debug__" : Str)) = false := by decide) : DE K w0 W X (.Name x pos) (cD (.str z)) := de_const (pe_gs hm hg hd) fun _ => by unfold Rep; rfl
theorem de_cls {x : Str} (hm : X.mg x = some (.ref (He.ga K x))) (hg : Gl X x := by rfl) (hd : (x == ("__debug__" : Str)) = false := by decide) : DE K w0 W X (.Name x pos) (cD (.cls x)) := de_const (pe_glob (v := .ref (He.ga K x)) hg hm rfl hd) fun _ => by unfold Rep; rfl
theorem de_ty {x : Str} {n : String} (hm : X.mg x = none) (hv : bootBuiltins x = some (.type n)) (hg : Gl X x := by rfl) (hn : x ≠ "__name__" := by decide) (hd : (x == ("__debug__" : Str)) = false := by decide) : DE K w0 W X (.Name x pos) (cD (.ty n)) :=
  de_const (pe_bltn (v := .ty n) hg hm hv rfl hn hd) fun _ => by unfold Rep; rfl
structure J2 (K : Frag) (w0 : Wd) (W : WX) (X : Cx) (g : Value → Value → Sem Value) (a b : D) (m : M D) : Prop where
  mono : Mono m
  run : ∀ (pins : List (Addr × Obj)) (s : Shared) (σ : L2.St) (ρ : Rh) (w : Wd) (x y : V) (v u : Value) (Q : VK), Inv X pins σ w.H s → At K w0 w ρ σ → RelV x v → RelV y u → Rep K w.toGd a x → Rep K w.toGd b y → Run K w0 W (Rep K) σ ρ w m Q →
    wpAny (model X.prog X.w) X.A (g v u) (EP X pins σ Q) X.xe s
theorem J2.of {g : Value → Value → Sem Value} {a b : D} {m : M D} {r : R2} (ho : OpR X g r) (hm : Mono m)
    (h : ∀ (σ : L2.St) (ρ : Rh) (w : Wd) (x y : V) (Q : VK), At K w0 w ρ σ → Rep K w.toGd a x → Rep K w.toGd b y → Run K w0 W (Rep K) σ ρ w m Q → r x y w.H Q) : J2 K w0 W X g a b m :=
  ⟨hm, fun pins s σ ρ w x y v u Q I at_ rx ry ra rb q => ho pins s σ w.H x y v u Q I rx ry (h σ ρ w x y Q at_ ra rb q)⟩
theorem J2.no {g : Value → Value → Sem Value} {a b : D} : J2 K w0 W X g a b fail := ⟨mono_fail, fun _ _ _ _ _ _ _ _ _ _ _ _ _ _ _ _ h => h.elim⟩
abbrev J2A (K : Frag) (w0 : Wd) (W : WX) (X : Cx) (g : Value → Value → Sem Value) (f : D → D → M D) : Prop := ∀ a b, J2 K w0 W X g a b (f a b)
def eBin (f : D → D → M D) (a b : Rh → M D) : Rh → M D := fun ρ => bind (a ρ) fun x => bind (b ρ) fun y => f x y
theorem mono_bin {f : D → D → M D} {a b : Rh → M D} (hf : ∀ x y, Mono (f x y)) (ha : ∀ ρ, Mono (a ρ)) (hb : ∀ ρ, Mono (b ρ)) : ∀ ρ, Mono (eBin f a b ρ) := fun ρ => mono_bind (ha ρ) fun _ => mono_bind (hb ρ) fun _ => hf _ _
theorem two_go {a b : Expr} {ma mb : Rh → M D} {f : D → D → M D} {g : Value → Value → Sem Value} (hf : J2A K w0 W X g f) (ha : DE K w0 W X a ma) (hb : DE K w0 W X b mb) {Q : VK} (I : Inv X pins σ w.H s) (at_ : At K w0 w ρ σ) (r : Run K w0 W (Rep K) σ ρ w (eBin f ma mb ρ) Q) :
    wpAny (model X.prog X.w) X.A (eval a X.env) (fun v s₁ => wpAny (model X.prog X.w) X.A (eval b X.env) (fun u s₂ => wpAny (model X.prog X.w) X.A (g v u) (EP X pins σ Q) X.xe s₂) X.xe s₁) X.xe s := by
  refine thn (ha.go (fun _ => mono_bind (hb.mono ρ) fun _ => (hf _ _).mono) I at_ r) ?_
  rintro v s1 ⟨x, da, w1, I1, n1, rx, ra, r1⟩
  refine thn (hb.go (fun _ => (hf _ _).mono) I1 n1.at_ r1) ?_
  rintro u s2 ⟨y, db, w2, I2, n2, ry, rb, r2⟩
  exact (hf da db).run pins s2 σ ρ w2 x y v u Q I2 n2.at_ rx ry (Rep.le n2.le _ ra) rb r2
theorem de_bin {op : Operator} {a b : Expr} {ma mb : Rh → M D} {f : D → D → M D} (hf : J2A K w0 W X (binaryOp op) f) (ha : DE K w0 W X a ma) (hb : DE K w0 W X b mb) : DE K w0 W X (.BinOp a op b pos) (eBin f ma mb) :=
  .of (mono_bin (fun _ _ => (hf _ _).mono) ha.mono hb.mono) fun _ _ _ _ _ _ I at_ r => wpAny_BinOp (two_go hf ha hb I at_ r)
theorem de_cmp {op : CmpOp} {a b : Expr} {ma mb : Rh → M D} {f : D → D → M D} (hf : J2A K w0 W X (compareOp op) f) (ha : DE K w0 W X a ma) (hb : DE K w0 W X b mb) (hm : behindInMarks op b = false := by first | exact nomark _ | rfl) : DE K w0 W X (.Compare a [op] [b] pos) (eBin f ma mb) :=
  .of (mono_bin (fun _ _ => (hf _ _).mono) ha.mono hb.mono) fun _ _ _ _ _ _ I at_ r => wpAny_Compare1 (two_go hf ha hb I at_ r) hm
def asB : D → M Bool
  | .bl b => ret b
  | _ => fail
theorem mono_asB {d : D} : Mono (asB d) := by unfold asB; split; exact mono_ret; exact mono_fail
theorem DT.of {e : Expr} {m : Rh → M Bool} (hm : ∀ ρ, Mono (m ρ)) (h : ∀ (pins : List (Addr × Obj)) (s : Shared) (σ : L2.St) (ρ : Rh) (w : Wd) (Q : Bool → Hp → Prop), Inv X pins σ w.H s → At K w0 w ρ σ → RunB K w0 W σ ρ w (m ρ) Q →
    wpAny (model X.prog X.w) X.A (isTrue e X.env (eval e X.env)) (TP X pins σ Q) X.xe s) : DT K w0 W X e m := by
  refine ⟨hm, ⟨fun pins s σ H Q I hh => ?_⟩⟩
  obtain ⟨w, ρ, rfl, at_, r⟩ := hh
  exact h pins s σ ρ w Q I at_ r
def RB (_ : Gd) (b : Bool) (v : V) : Prop := v = .bl b
theorem runB_iff {m : M Bool} {Q : Bool → Hp → Prop} (hm : Mono m) : RunB K w0 W σ ρ w m Q ↔ Run K w0 W RB σ ρ w m (fun v H => ∃ b, v = .bl b ∧ Q b H) := by
  constructor
  · intro h
    refine hm _ _ _ _ _ (fun b S' q w' v e n r => ⟨b, r, q w' e n⟩) (fun _ _ q => q) h
  · intro h
    refine hm _ _ _ _ _ (fun b S' q w' e n => ?_) (fun _ _ q => q) h
    obtain ⟨b', e', q'⟩ := q w' (.bl b) e n rfl
    cases e'
    exact q'
theorem bin_goB {a b : Expr} {ma mb : Rh → M D} {f : D → D → M D} {g : Value → Value → Sem Value} (hf : J2A K w0 W X g f) (ha : DE K w0 W X a ma) (hb : DE K w0 W X b mb) {Q : Bool → Hp → Prop} (I : Inv X pins σ w.H s) (at_ : At K w0 w ρ σ) (r : RunB K w0 W σ ρ w (bind (eBin f ma mb ρ) asB) Q) :
    wpAny (model X.prog X.w) X.A (eval a X.env) (fun v s₁ => wpAny (model X.prog X.w) X.A (eval b X.env) (fun u s₂ => wpAny (model X.prog X.w) X.A (g v u) (fun c s3 => wpAny (model X.prog X.w) X.A (truthy c) (TP X pins σ Q) X.xe s3) X.xe s₂) X.xe s₁) X.xe s := by
  have r' := (runB_iff (mono_bind (mono_bin (fun _ _ => (hf _ _).mono) ha.mono hb.mono ρ) fun _ => mono_asB)).mp r
  have r2 := Run.bind (R' := fun v H => ∃ b, v = .bl b ∧ Q b H) (mono_bin (fun _ _ => (hf _ _).mono) ha.mono hb.mono ρ) (fun _ => mono_asB) r' (fun w' v d n rd q => by
    unfold asB at q
    split at q
    · rename_i b
      unfold Rep at rd
      refine ⟨b, rd, ?_⟩
      obtain ⟨b', e', q'⟩ := q w' (.bl b) rfl n.at_.here rfl
      cases e'
      exact q'
    · exact q.elim)
  refine thn (two_go hf ha hb I at_ r2) fun v s1 h1 => thn h1 fun u s2 h2 => thn h2 ?_
  rintro c s3 ⟨v, H', I', rv, b, rfl, q⟩
  cases rv
  exact wpAny_truthy_bool ⟨H', I', q⟩
theorem dt_cmp {op : CmpOp} {a b : Expr} {ma mb : Rh → M D} {f : D → D → M D} (hf : J2A K w0 W X (compareOp op) f) (ha : DE K w0 W X a ma) (hb : DE K w0 W X b mb) (hm : behindInMarks op b = false := by first | exact nomark _ | rfl) : DT K w0 W X (.Compare a [op] [b] pos) (fun ρ => bind (eBin f ma mb ρ) asB) :=
  .of (fun ρ => mono_bind (mono_bin (fun _ _ => (hf _ _).mono) ha.mono hb.mono ρ) fun _ => mono_asB) fun _ _ _ _ _ _ I at_ r => wpAny_isTrue_Compare1 (bin_goB hf ha hb I at_ r) hm
structure J1T (K : Frag) (w0 : Wd) (W : WX) (X : Cx) (a : D) (m : M Bool) : Prop where
  mono : Mono m
  run : ∀ (pins : List (Addr × Obj)) (s : Shared) (σ : L2.St) (ρ : Rh) (w : Wd) (x : V) (v : Value) (Q : Bool → Hp → Prop), Inv X pins σ w.H s → At K w0 w ρ σ → RelV x v → Rep K w.toGd a x → RunB K w0 W σ ρ w m Q →
    wpAny (model X.prog X.w) X.A (truthy v) (TP X pins σ Q) X.xe s
abbrev J1TA (K : Frag) (w0 : Wd) (W : WX) (X : Cx) (f : D → M Bool) : Prop := ∀ a, J1T K w0 W X a (f a)
def truD : D → M Bool
  | .non => ret false
  | .bl b => ret b
  | .int i => ret (i != 0)
  | .str z => need (z.length ≤ sizeLine) (ret ((z.length : Int) != 0))
  | .lst xs => ret (!xs.isEmpty)
  | .tup xs => ret (!xs.isEmpty)
  | _ => fail
theorem RunB.fin {b : Bool} {Q : Bool → Hp → Prop} (at_ : At K w0 w ρ σ) (r : RunB K w0 W σ ρ w (ret b) Q) : Q b w.H := r w rfl at_.here
theorem RepL.isEmpty {G : Gd} {ds : List D} {vs : List V} (h : RepL K G ds vs) : ds.isEmpty = vs.isEmpty := by
  cases ds with
  | nil => unfold RepL at h; rw [h]; rfl
  | cons d ds => unfold RepL at h; obtain ⟨v, r, rfl, _⟩ := h; rfl
theorem jt_tru (hK : X.K = K := by rfl) : J1TA K w0 W X truD := by
  subst hK
  intro a
  refine ⟨?_, fun pins s σ ρ w x v Q I at_ rx ra r => ?_⟩
  · unfold truD
    split
    case h_4 => exact mono_need mono_ret
    all_goals first | exact mono_ret | exact mono_fail
  · unfold truD at r
    split at r
    · unfold Rep at ra; subst ra
      exact tru_ok pins s σ w.H _ v Q I rx ⟨false, rfl, r.fin at_⟩
    · unfold Rep at ra; subst ra
      exact tru_ok pins s σ w.H _ v Q I rx ⟨_, rfl, r.fin at_⟩
    · unfold Rep at ra; subst ra
      exact tru_ok pins s σ w.H _ v Q I rx ⟨_, rfl, r.fin at_⟩
    · unfold Rep at ra; subst ra
      exact tru_ok pins s σ w.H _ v Q I rx ⟨_, ⟨r.1, rfl⟩, RunB.fin at_ r.2⟩
    · unfold Rep at ra
      obtain ⟨a, vs, rfl, h1, h2⟩ := ra
      refine tru_ok pins s σ w.H _ v Q I rx ⟨_, .inl ⟨vs, .inl (rd_le at_.st.ok.le h1), rfl⟩, ?_⟩
      rw [← h2.isEmpty]; exact r.fin at_
    · unfold Rep at ra
      obtain ⟨a, vs, rfl, h1, h2⟩ := ra
      refine tru_ok pins s σ w.H _ v Q I rx ⟨_, .inr (.inl ⟨vs, sqT_le at_.st.ok.le h1, rfl⟩), ?_⟩
      rw [← h2.isEmpty]; exact r.fin at_
    · exact r.elim
theorem dt_val {e : Expr} {m : Rh → M D} {f : D → M Bool} (hf : J1TA K w0 W X f) (h : DE K w0 W X e m) (he : ∀ whole, isTrue e X.env whole = (do let v ← whole; standAt e.pos; holding [v] (truthy v)) := by intro _; rfl) : DT K w0 W X e (fun ρ => bind (m ρ) f) := by
  refine .of (fun ρ => mono_bind (h.mono ρ) fun _ => (hf _).mono) fun pins s σ ρ w Q I at_ r => isTrue_plain ?_ (he _)
  refine thn (h.go (fun _ => (hf _).mono) I at_ ((runB_iff (mono_bind (h.mono ρ) fun _ => (hf _).mono)).mp r)) ?_
  rintro v s1 ⟨x, d, w1, I1, n1, rx, rd, r1⟩
  exact (hf d).run pins s1 σ ρ w1 x v Q I1 n1.at_ rx rd ((runB_iff (hf d).mono).mpr r1)
end
end Dn

namespace Dn
open PySem PySem.W PySem.Spec PyProof.Rows L2 TL Bits An
section
variable {K : Frag} {w0 w w1 : Wd} {W : WX} {X : Cx} {ρ : Rh} {σ : L2.St} {pins : List (Addr × Obj)} {s : Shared} {pos : Pos}
def Exc (K : Frag) (w0 : Wd) (W : WX) (w : Wd) (Ed : Xn → Rh → Sv → Prop) : Prop := ∀ x ρ' w' σ' c d, Ed x ρ' w'.S → Nw K w0 w w' ρ' σ' → RepX K w'.toGd x c d → W c d σ' w'.H
def ExcE (K : Frag) (w0 : Wd) (W : WX) (w : Wd) (ρ : Rh) (σ : L2.St) (Ed : Xn → Sv → Prop) : Prop := ∀ x w' c d, Ed x w'.S → Nx K w0 w w' ρ σ → RepX K w'.toGd x c d → W c d σ w'.H
theorem Exc.e {Ed : Xn → Rh → Sv → Prop} (h : Exc K w0 W w Ed) (ρ : Rh) (σ : L2.St) : ExcE K w0 W w ρ σ (Ed · ρ ·) := fun x w' c d e n rx => h x ρ w' σ c d e n.nw rx
theorem Exc.nw {Ed : Xn → Rh → Sv → Prop} {ρ' : Rh} {σ' : L2.St} (h : Exc K w0 W w Ed) (n : Nw K w0 w w1 ρ' σ') : Exc K w0 W w1 Ed := fun x r w' s' c d e n' rx => h x r w' s' c d e (n.trans n') rx
theorem ExcE.nw {Ed : Xn → Sv → Prop} {ρ' : Rh} {σ' : L2.St} (h : ExcE K w0 W w ρ σ Ed) (n : Nx K w0 w w1 ρ' σ') : ExcE K w0 W w1 ρ σ Ed := fun x w' c d e n' rx => h x w' c d e (n.trans n') rx
def GotE (K : Frag) (w0 : Wd) (X : Cx) (pins : List (Addr × Obj)) (σ : L2.St) (ρ : Rh) (w : Wd) (Qd : D → Sv → Prop) (u : Value) (s' : Shared) : Prop := ∃ v d w', Inv X pins σ w'.H s' ∧ Nx K w0 w w' ρ σ ∧ RelV v u ∧ Rep K w'.toGd d v ∧ Qd d w'.S
def GotB (K : Frag) (w0 : Wd) (X : Cx) (pins : List (Addr × Obj)) (σ : L2.St) (ρ : Rh) (w : Wd) (Qd : Bool → Sv → Prop) (b : Bool) (s' : Shared) : Prop := ∃ w', Inv X pins σ w'.H s' ∧ Nx K w0 w w' ρ σ ∧ Qd b w'.S
def GotA (K : Frag) (w0 : Wd) (X : Cx) (pins : List (Addr × Obj)) (σ : L2.St) (ρ : Rh) (w : Wd) (Qd : List D → Sv → Prop) (us : List Value) (s' : Shared) : Prop := ∃ vs ds w', Inv X pins σ w'.H s' ∧ Nx K w0 w w' ρ σ ∧ Vals vs us ∧ RepL K w'.toGd ds vs ∧ Qd ds w'.S
theorem GotE.nw {Qd : D → Sv → Prop} {u : Value} {s' : Shared} (g : GotE K w0 X pins σ ρ w1 Qd u s') (n : Nx K w0 w w1 ρ σ) : GotE K w0 X pins σ ρ w Qd u s' := by
  obtain ⟨v, d, w', a, b, c⟩ := g
  exact ⟨v, d, w', a, n.trans b, c⟩
theorem GotB.nw {Qd : Bool → Sv → Prop} {u : Bool} {s' : Shared} (g : GotB K w0 X pins σ ρ w1 Qd u s') (n : Nx K w0 w w1 ρ σ) : GotB K w0 X pins σ ρ w Qd u s' := by
  obtain ⟨w', a, b, c⟩ := g
  exact ⟨w', a, n.trans b, c⟩
theorem GotA.nw {Qd : List D → Sv → Prop} {u : List Value} {s' : Shared} (g : GotA K w0 X pins σ ρ w1 Qd u s') (n : Nx K w0 w w1 ρ σ) : GotA K w0 X pins σ ρ w Qd u s' := by
  obtain ⟨v, d, w', a, b, c⟩ := g
  exact ⟨v, d, w', a, n.trans b, c⟩
theorem GotE.here {Qd : D → Sv → Prop} {u : Value} {v : V} {d : D} (I : Inv X pins σ w.H s) (at_ : At K w0 w ρ σ) (r : RelV v u) (rd : Rep K w.toGd d v) (q : Qd d w.S) : GotE K w0 X pins σ ρ w Qd u s := ⟨v, d, w, I, at_.here, r, rd, q⟩
theorem GotB.here {Qd : Bool → Sv → Prop} {b : Bool} (I : Inv X pins σ w.H s) (at_ : At K w0 w ρ σ) (q : Qd b w.S) : GotB K w0 X pins σ ρ w Qd b s := ⟨w, I, at_.here, q⟩
theorem DE.raw {e : Expr} {m : Rh → M D} (h : DE K w0 W X e m) {Qd : D → Sv → Prop} {Ed : Xn → Sv → Prop} (I : Inv X pins σ w.H s) (at_ : At K w0 w ρ σ) (r : m ρ w.S Qd Ed) (hE : ExcE K w0 W w ρ σ Ed) :
    wpAny (model X.prog X.w) X.A (eval e X.env) (GotE K w0 X pins σ ρ w Qd) X.xe s := by
  refine thn (h.pe.run pins s σ w.H (fun v H' => ∃ d w', w'.H = H' ∧ Nx K w0 w w' ρ σ ∧ Rep K w'.toGd d v ∧ Qd d w'.S) I ⟨w, ρ, rfl, at_, ?_⟩) ?_
  · exact h.mono ρ _ _ _ _ _ (fun d S' q w' v e n rr => ⟨d, w', rfl, n, rr, by rw [e]; exact q⟩) (fun x S' q w' c d e n rx => hE x w' c d (by rw [e]; exact q) n rx) r
  · rintro u s' ⟨v, H', I', rv, d, w', rfl, n, rr, q⟩
    exact ⟨v, d, w', I', n, rv, rr, q⟩
theorem DT.raw {e : Expr} {m : Rh → M Bool} (h : DT K w0 W X e m) {Qd : Bool → Sv → Prop} {Ed : Xn → Sv → Prop} (I : Inv X pins σ w.H s) (at_ : At K w0 w ρ σ) (r : m ρ w.S Qd Ed) (hE : ExcE K w0 W w ρ σ Ed) :
    wpAny (model X.prog X.w) X.A (isTrue e X.env (eval e X.env)) (GotB K w0 X pins σ ρ w Qd) X.xe s := by
  refine thn (h.pt.run pins s σ w.H (fun b H' => ∃ w', w'.H = H' ∧ Nx K w0 w w' ρ σ ∧ Qd b w'.S) I ⟨w, ρ, rfl, at_, ?_⟩) ?_
  · exact h.mono ρ _ _ _ _ _ (fun d S' q w' e n => ⟨w', rfl, n, by rw [e]; exact q⟩) (fun x S' q w' c d e n rx => hE x w' c d (by rw [e]; exact q) n rx) r
  · rintro b s' ⟨H', I', w', rfl, n, q⟩
    exact ⟨w', I', n, q⟩
theorem DA.raw {es : List Expr} {m : Rh → M (List D)} (h : DA K w0 W X es m) {Qd : List D → Sv → Prop} {Ed : Xn → Sv → Prop} (pos : Pos) (I : Inv X pins σ w.H s) (at_ : At K w0 w ρ σ) (r : m ρ w.S Qd Ed) (hE : ExcE K w0 W w ρ σ Ed) :
    wpAny (model X.prog X.w) X.A (spliced (backTo pos (starEach es X.env))) (GotA K w0 X pins σ ρ w Qd) X.xe s := by
  refine thn (h.pa.run pos pins s σ w.H (fun vs H' => ∃ ds w', w'.H = H' ∧ Nx K w0 w w' ρ σ ∧ RepL K w'.toGd ds vs ∧ Qd ds w'.S) I ⟨w, ρ, rfl, at_, ?_⟩) ?_
  · exact h.mono ρ _ _ _ _ _ (fun d S' q w' v e n rr => ⟨d, w', rfl, n, rr, by rw [e]; exact q⟩) (fun x S' q w' c d e n rx => hE x w' c d (by rw [e]; exact q) n rx) r
  · rintro us s' ⟨vs, H', I', rv, ds, w', rfl, n, rr, q⟩
    exact ⟨vs, ds, w', I', n, rv, rr, q⟩
theorem DE.mk' {e : Expr} {m : Rh → M D} (hm : ∀ ρ, Mono (m ρ)) (h : ∀ (pins : List (Addr × Obj)) (s : Shared) (σ : L2.St) (ρ : Rh) (w : Wd) (Qd : D → Sv → Prop) (Ed : Xn → Sv → Prop), Inv X pins σ w.H s → At K w0 w ρ σ → m ρ w.S Qd Ed → ExcE K w0 W w ρ σ Ed →
    wpAny (model X.prog X.w) X.A (eval e X.env) (GotE K w0 X pins σ ρ w Qd) X.xe s) : DE K w0 W X e m := by
  refine .of hm fun pins s σ ρ w Q I at_ r => ?_
  refine thn (h pins s σ ρ w _ _ I at_ r fun x w' c d q n rx => q w' c d rfl n rx) ?_
  rintro u s' ⟨v, d, w', I', n, rv, rr, q⟩
  exact ⟨v, w'.H, I', rv, q w' v rfl n rr⟩
theorem DT.mk' {e : Expr} {m : Rh → M Bool} (hm : ∀ ρ, Mono (m ρ)) (h : ∀ (pins : List (Addr × Obj)) (s : Shared) (σ : L2.St) (ρ : Rh) (w : Wd) (Qd : Bool → Sv → Prop) (Ed : Xn → Sv → Prop), Inv X pins σ w.H s → At K w0 w ρ σ → m ρ w.S Qd Ed → ExcE K w0 W w ρ σ Ed →
    wpAny (model X.prog X.w) X.A (isTrue e X.env (eval e X.env)) (GotB K w0 X pins σ ρ w Qd) X.xe s) : DT K w0 W X e m := by
  refine .of hm fun pins s σ ρ w Q I at_ r => ?_
  refine thn (h pins s σ ρ w _ _ I at_ r fun x w' c d q n rx => q w' c d rfl n rx) ?_
  rintro b s' ⟨w', I', n, q⟩
  exact ⟨w'.H, I', q w' rfl n⟩
theorem DA.mk' {es : List Expr} {m : Rh → M (List D)} (hm : ∀ ρ, Mono (m ρ)) (h : ∀ (pos : Pos) (pins : List (Addr × Obj)) (s : Shared) (σ : L2.St) (ρ : Rh) (w : Wd) (Qd : List D → Sv → Prop) (Ed : Xn → Sv → Prop), Inv X pins σ w.H s → At K w0 w ρ σ → m ρ w.S Qd Ed → ExcE K w0 W w ρ σ Ed →
    wpAny (model X.prog X.w) X.A (spliced (backTo pos (starEach es X.env))) (GotA K w0 X pins σ ρ w Qd) X.xe s) : DA K w0 W X es m := by
  refine ⟨hm, ⟨fun pos pins s σ H Q I hh => ?_⟩⟩
  obtain ⟨w, ρ, rfl, at_, r⟩ := hh
  refine thn (h pos pins s σ ρ w _ _ I at_ r fun x w' c d q n rx => q w' c d rfl n rx) ?_
  rintro us s' ⟨vs, ds, w', I', n, rv, rr, q⟩
  exact ⟨vs, w'.H, I', rv, q w' vs rfl n rr⟩
theorem J2.raw {g : Value → Value → Sem Value} {a b : D} {m : M D} (h : J2 K w0 W X g a b m) {x y : V} {v u : Value} {Qd : D → Sv → Prop} {Ed : Xn → Sv → Prop} (I : Inv X pins σ w.H s) (at_ : At K w0 w ρ σ) (rx : RelV x v) (ry : RelV y u) (ra : Rep K w.toGd a x) (rb : Rep K w.toGd b y) (r : m w.S Qd Ed) (hE : ExcE K w0 W w ρ σ Ed) :
    wpAny (model X.prog X.w) X.A (g v u) (GotE K w0 X pins σ ρ w Qd) X.xe s := by
  refine thn (h.run pins s σ ρ w x y v u (fun v H' => ∃ d w', w'.H = H' ∧ Nx K w0 w w' ρ σ ∧ Rep K w'.toGd d v ∧ Qd d w'.S) I at_ rx ry ra rb ?_) ?_
  · exact h.mono _ _ _ _ _ (fun d S' q w' v e n rr => ⟨d, w', rfl, n, rr, by rw [e]; exact q⟩) (fun x S' q w' c d e n rx => hE x w' c d (by rw [e]; exact q) n rx) r
  · rintro u s' ⟨v, H', I', rv, d, w', rfl, n, rr, q⟩
    exact ⟨v, d, w', I', n, rv, rr, q⟩
theorem J1T.raw {a : D} {m : M Bool} (h : J1T K w0 W X a m) {x : V} {v : Value} {Qd : Bool → Sv → Prop} {Ed : Xn → Sv → Prop} (I : Inv X pins σ w.H s) (at_ : At K w0 w ρ σ) (rx : RelV x v) (ra : Rep K w.toGd a x) (r : m w.S Qd Ed) (hE : ExcE K w0 W w ρ σ Ed) :
    wpAny (model X.prog X.w) X.A (truthy v) (GotB K w0 X pins σ ρ w Qd) X.xe s := by
  refine thn (h.run pins s σ ρ w x v (fun b H' => ∃ w', w'.H = H' ∧ Nx K w0 w w' ρ σ ∧ Qd b w'.S) I at_ rx ra ?_) ?_
  · exact h.mono _ _ _ _ _ (fun d S' q w' e n => ⟨w', rfl, n, by rw [e]; exact q⟩) (fun x S' q w' c d e n rx => hE x w' c d (by rw [e]; exact q) n rx) r
  · rintro b s' ⟨H', I', w', rfl, n, q⟩
    exact ⟨w', I', n, q⟩
def eAnd (f : D → M Bool) (a b : Rh → M D) : Rh → M D := fun ρ => bind (a ρ) fun x => bind (f x) fun c => iteM c (b ρ) (ret x)
def eOr (f : D → M Bool) (a b : Rh → M D) : Rh → M D := fun ρ => bind (a ρ) fun x => bind (f x) fun c => iteM c (ret x) (b ρ)
theorem de_one {op : BoolOp} {a : Expr} {m : Rh → M D} (h : DE K w0 W X a m) : DE K w0 W X (.BoolOp op [a] pos) m := ⟨h.mono, pe_one h.pe⟩
theorem de_and {a b : Expr} {rest : List Expr} {ma mb : Rh → M D} {f : D → M Bool} (hf : J1TA K w0 W X f) (ha : DE K w0 W X a ma) (hb : DE K w0 W X (.BoolOp .And (b :: rest) pos) mb) : DE K w0 W X (.BoolOp .And (a :: b :: rest) pos) (eAnd f ma mb) := by
  refine .mk' (fun ρ => mono_bind (ha.mono ρ) fun _ => mono_bind (hf _).mono fun _ => mono_ite (hb.mono ρ) mono_ret) fun pins s σ ρ w Qd Ed I at_ r hE => ?_
  refine BoolOp_and (thn (ha.raw I at_ r hE) ?_)
  rintro v s1 ⟨x, d, w1, I1, n1, rx, rd, r1⟩
  refine thn ((hf d).raw I1 n1.at_ rx rd r1 (hE.nw n1)) ?_
  rintro c s2 ⟨w2, I2, n2, r2⟩
  cases c with
  | true => exact thn (hb.raw I2 n2.at_ (r2.1 rfl) (hE.nw (n1.trans n2))) fun u s3 g => g.nw (n1.trans n2)
  | false => exact ⟨x, d, w2, I2, n1.trans n2, rx, Rep.le n2.le _ rd, r2.2 rfl⟩
theorem de_or {a b : Expr} {rest : List Expr} {ma mb : Rh → M D} {f : D → M Bool} (hf : J1TA K w0 W X f) (ha : DE K w0 W X a ma) (hb : DE K w0 W X (.BoolOp .Or (b :: rest) pos) mb) : DE K w0 W X (.BoolOp .Or (a :: b :: rest) pos) (eOr f ma mb) := by
  refine .mk' (fun ρ => mono_bind (ha.mono ρ) fun _ => mono_bind (hf _).mono fun _ => mono_ite mono_ret (hb.mono ρ)) fun pins s σ ρ w Qd Ed I at_ r hE => ?_
  refine BoolOp_or (thn (ha.raw I at_ r hE) ?_)
  rintro v s1 ⟨x, d, w1, I1, n1, rx, rd, r1⟩
  refine thn ((hf d).raw I1 n1.at_ rx rd r1 (hE.nw n1)) ?_
  rintro c s2 ⟨w2, I2, n2, r2⟩
  cases c with
  | false => exact thn (hb.raw I2 n2.at_ (r2.2 rfl) (hE.nw (n1.trans n2))) fun u s3 g => g.nw (n1.trans n2)
  | true => exact ⟨x, d, w2, I2, n1.trans n2, rx, Rep.le n2.le _ rd, r2.1 rfl⟩
def eNot (f : D → M Bool) (a : Rh → M D) : Rh → M D := fun ρ => bind (a ρ) fun x => bind (f x) fun c => ret (.bl (!c))
theorem de_not {a : Expr} {ma : Rh → M D} {f : D → M Bool} (hf : J1TA K w0 W X f) (ha : DE K w0 W X a ma) : DE K w0 W X (.UnaryOp .Not a pos) (eNot f ma) := by
  refine .mk' (fun ρ => mono_bind (ha.mono ρ) fun _ => mono_bind (hf _).mono fun _ => mono_ret) fun pins s σ ρ w Qd Ed I at_ r hE => ?_
  refine UnaryOp_ (thn (ha.raw I at_ r hE) ?_)
  rintro v s1 ⟨x, d, w1, I1, n1, rx, rd, r1⟩
  refine not_of (thn ((hf d).raw I1 n1.at_ rx rd r1 (hE.nw n1)) ?_)
  rintro c s2 ⟨w2, I2, n2, r2⟩
  exact ⟨.bl (!c), _, w2, I2, n1.trans n2, rfl, by unfold Rep; rfl, r2⟩
def eIf (c : Rh → M Bool) (a b : Rh → M D) : Rh → M D := fun ρ => bind (c ρ) fun k => iteM k (a ρ) (b ρ)
theorem de_if {c a b : Expr} {mc : Rh → M Bool} {ma mb : Rh → M D} (hc : DT K w0 W X c mc) (ha : DE K w0 W X a ma) (hb : DE K w0 W X b mb) : DE K w0 W X (.IfExp c a b pos) (eIf mc ma mb) := by
  refine .mk' (fun ρ => mono_bind (hc.mono ρ) fun _ => mono_ite (ha.mono ρ) (hb.mono ρ)) fun pins s σ ρ w Qd Ed I at_ r hE => ?_
  refine wpAny_IfExp (thn (hc.raw I at_ r hE) ?_)
  rintro k s1 ⟨w1, I1, n1, r1⟩
  cases k with
  | true => exact thn (ha.raw I1 n1.at_ (r1.1 rfl) (hE.nw n1)) fun u s3 g => g.nw n1
  | false => exact thn (hb.raw I1 n1.at_ (r1.2 rfl) (hE.nw n1)) fun u s3 g => g.nw n1
structure DW (K : Frag) (w0 : Wd) (W : WX) (X : Cx) (e : Expr) (m : Rh → M Bool) : Prop where
  mono : ∀ ρ, Mono (m ρ)
  run : ∀ (whole : Sem Value) (pins : List (Addr × Obj)) (s : Shared) (σ : L2.St) (ρ : Rh) (w : Wd) (Qd : Bool → Sv → Prop) (Ed : Xn → Sv → Prop), Inv X pins σ w.H s → At K w0 w ρ σ → m ρ w.S Qd Ed → ExcE K w0 W w ρ σ Ed →
    wpAny (model X.prog X.w) X.A (isTrue e X.env whole) (GotB K w0 X pins σ ρ w Qd) X.xe s
theorem DW.dt {e : Expr} {m : Rh → M Bool} (h : DW K w0 W X e m) : DT K w0 W X e m := .mk' h.mono fun pins s σ ρ w Qd Ed I at_ r hE => h.run _ pins s σ ρ w Qd Ed I at_ r hE
def bAnd (a b : Rh → M Bool) : Rh → M Bool := fun ρ => bind (a ρ) fun c => iteM c (b ρ) (ret false)
def bOr (a b : Rh → M Bool) : Rh → M Bool := fun ρ => bind (a ρ) fun c => iteM c (ret true) (b ρ)
def bNot (a : Rh → M Bool) : Rh → M Bool := fun ρ => bind (a ρ) fun c => ret (!c)
theorem dw_and1 {a : Expr} {m : Rh → M Bool} (h : DT K w0 W X a m) : DW K w0 W X (.BoolOp .And [a] pos) m := ⟨h.mono, fun wh pins s σ ρ w Qd Ed I at_ r hE => by
  refine isTrue_and (thn (h.raw I at_ r hE) ?_)
  intro c s1 g
  cases c with
  | true => exact isTrue_and_nil g
  | false => exact g⟩
theorem dw_or1 {a : Expr} {m : Rh → M Bool} (h : DT K w0 W X a m) : DW K w0 W X (.BoolOp .Or [a] pos) m := ⟨h.mono, fun wh pins s σ ρ w Qd Ed I at_ r hE => by
  refine isTrue_or (thn (h.raw I at_ r hE) ?_)
  intro c s1 g
  cases c with
  | false => exact isTrue_or_nil g
  | true => exact g⟩
theorem dw_and {a b : Expr} {rest : List Expr} {m n : Rh → M Bool} (h : DT K w0 W X a m) (h2 : DW K w0 W X (.BoolOp .And (b :: rest) pos) n) : DW K w0 W X (.BoolOp .And (a :: b :: rest) pos) (bAnd m n) := ⟨fun ρ => mono_bind (h.mono ρ) fun _ => mono_ite (h2.mono ρ) mono_ret, fun wh pins s σ ρ w Qd Ed I at_ r hE => by
  refine isTrue_and (thn (h.raw I at_ r hE) ?_)
  rintro c s1 ⟨w1, I1, n1, r1⟩
  cases c with
  | true => exact thn (h2.run wh pins s1 σ ρ w1 Qd Ed I1 n1.at_ (r1.1 rfl) (hE.nw n1)) fun u s3 g => g.nw n1
  | false => exact ⟨w1, I1, n1, r1.2 rfl⟩⟩
theorem dw_or {a b : Expr} {rest : List Expr} {m n : Rh → M Bool} (h : DT K w0 W X a m) (h2 : DW K w0 W X (.BoolOp .Or (b :: rest) pos) n) : DW K w0 W X (.BoolOp .Or (a :: b :: rest) pos) (bOr m n) := ⟨fun ρ => mono_bind (h.mono ρ) fun _ => mono_ite mono_ret (h2.mono ρ), fun wh pins s σ ρ w Qd Ed I at_ r hE => by
  refine isTrue_or (thn (h.raw I at_ r hE) ?_)
  rintro c s1 ⟨w1, I1, n1, r1⟩
  cases c with
  | false => exact thn (h2.run wh pins s1 σ ρ w1 Qd Ed I1 n1.at_ (r1.2 rfl) (hE.nw n1)) fun u s3 g => g.nw n1
  | true => exact ⟨w1, I1, n1, r1.1 rfl⟩⟩
theorem dt_not {a : Expr} {m : Rh → M Bool} (h : DT K w0 W X a m) : DT K w0 W X (.UnaryOp .Not a pos) (bNot m) := by
  refine .mk' (fun ρ => mono_bind (h.mono ρ) fun _ => mono_ret) fun pins s σ ρ w Qd Ed I at_ r hE => ?_
  refine isTrue_not (thn (h.raw I at_ r hE) ?_)
  rintro c s1 ⟨w1, I1, n1, r1⟩
  exact ⟨w1, I1, n1, r1⟩
def eChain (f g : D → D → M D) (a b c : Rh → M D) : Rh → M D := fun ρ => bind (a ρ) fun x => bind (b ρ) fun y => bind (f x y) fun r => bind (asB r) fun k => iteM k (bind (c ρ) fun z => g y z) (ret (.bl false))
theorem de_chain {op op' : CmpOp} {a b c : Expr} {ma mb mc : Rh → M D} {f g : D → D → M D} (hf : J2A K w0 W X (compareOp op) f) (hg : J2A K w0 W X (compareOp op') g) (ha : DE K w0 W X a ma) (hb : DE K w0 W X b mb) (hc : DE K w0 W X c mc)
    (hm : lastMarks [op, op'] [b, c] = false := by with_unfolding_all rfl) : DE K w0 W X (.Compare a [op, op'] [b, c] pos) (eChain f g ma mb mc) := by
  refine .mk' (fun ρ => mono_bind (ha.mono ρ) fun _ => mono_bind (hb.mono ρ) fun _ => mono_bind (hf _ _).mono fun _ => mono_bind mono_asB fun _ => mono_ite (mono_bind (hc.mono ρ) fun _ => (hg _ _).mono) mono_ret) fun pins s σ ρ w Qd Ed I at_ r hE => ?_
  refine Compare_chain (thn (ha.raw I at_ r hE) ?_) hm
  rintro v s1 ⟨x, da, w1, I1, n1, rx, ra, r1⟩
  refine chain_link (thn (hb.raw I1 n1.at_ r1 (hE.nw n1)) ?_)
  rintro u s2 ⟨y, db, w2, I2, n2, ry, rb, r2⟩
  refine thn ((hf da db).raw I2 n2.at_ rx ry (Rep.le n2.le _ ra) rb r2 (hE.nw (n1.trans n2))) ?_
  rintro t s3 ⟨z, dd, w3, I3, n3, rz, rd, r3⟩
  cases dd <;> first | exact r3.elim | skip
  rename_i k
  unfold Rep at rd
  subst rd
  cases rz
  refine wpAny_truthy_bool ?_
  cases k with
  | false => exact ite_ff ⟨.bl false, _, w3, I3, (n1.trans n2).trans n3, rfl, by unfold Rep; rfl, r3.2 rfl⟩
  | true =>
    refine ite_tt (chain_last (thn (hc.raw I3 n3.at_ (r3.1 rfl) (hE.nw ((n1.trans n2).trans n3))) ?_))
    rintro t s4 ⟨z', de, w4, I4, n4, rz', re, r4⟩
    exact thn ((hg db de).raw I4 n4.at_ ry rz' (Rep.le (n3.le.trans n4.le) _ rb) re r4 (hE.nw (((n1.trans n2).trans n3).trans n4))) fun u s3 g => g.nw (((n1.trans n2).trans n3).trans n4)
def aNil : Rh → M (List D) := fun _ => ret []
def aCons (a : Rh → M D) (b : Rh → M (List D)) : Rh → M (List D) := fun ρ => bind (a ρ) fun x => bind (b ρ) fun xs => ret (x :: xs)
theorem da_nil : DA K w0 W X [] aNil := .mk' (fun _ => mono_ret) fun pos pins s σ ρ w Qd Ed I at_ r hE => Calls.spliced_nil ⟨[], [], w, I, at_.here, .nil, RepL.nil, r⟩
theorem da_cons {e : Expr} {es : List Expr} {a : Rh → M D} {b : Rh → M (List D)} (ha : DE K w0 W X e a) (hb : DA K w0 W X es b) (hs : starEach (e :: es) X.env = (false, eval e X.env) :: starEach es X.env := by rfl) : DA K w0 W X (e :: es) (aCons a b) := by
  refine .mk' (fun ρ => mono_bind (ha.mono ρ) fun _ => mono_bind (hb.mono ρ) fun _ => mono_ret) fun pos pins s σ ρ w Qd Ed I at_ r hE => ?_
  rw [hs]
  show wpAny _ _ (spliced ((false, eval e X.env) :: backTo pos (starEach es X.env))) _ _ s
  refine Calls.spliced_cons (thn (ha.raw I at_ r hE) ?_)
  rintro v s1 ⟨x, da, w1, I1, n1, rx, ra, r1⟩
  refine thn (hb.raw pos I1 n1.at_ r1 (hE.nw n1)) ?_
  rintro us s2 ⟨vs, ds, w2, I2, n2, rv, rds, r2⟩
  exact ⟨x :: vs, da :: ds, w2, I2, n1.trans n2, .cons rx rv, RepL.cons (Rep.le n2.le _ ra) rds, r2⟩
def lstM (ds : List D) : M D := need (ds.length ≤ sizeLine) (ret (.lst ds))
def tupM (ds : List D) : M D := need (ds.length ≤ sizeLine) (ret (.tup ds))
theorem repL_lay {G : Gd} {p : Addr} {ds : List D} {vs : List V} (hp : G.F p = none) (o : HO) (r : RepL K G ds vs) : RepL K ⟨upd G.F p o, G.A⟩ ds vs :=
  RepL.le (G := G) (G' := ⟨upd G.F p o, G.A⟩) ⟨fun a u e => by show upd G.F p o a = some u; rw [upd_ne (fun z => by rw [z, hp] at e; cases e)]; exact e, List.prefix_refl _⟩ _ r
theorem lst_laid {p : Addr} {ds : List D} {vs : List V} (ok : Wok K w) (hp : w.H p = none) (r : RepL K w.toGd ds vs) : Rep K (w.lay p (.lst vs)).toGd (.lst ds) (.ref p) := by
  unfold Rep
  exact ⟨p, vs, rfl, .inl upd_same, repL_lay (ok.fnone hp) _ r⟩
theorem tup_laid {p : Addr} {ds : List D} {vs : List V} (ok : Wok K w) (hp : w.H p = none) (r : RepL K w.toGd ds vs) : Rep K (w.lay p (.tup vs)).toGd (.tup ds) (.ref p) := by
  unfold Rep
  exact ⟨p, vs, rfl, SqT.of upd_same, repL_lay (ok.fnone hp) _ r⟩
theorem de_lst {es : List Expr} {m : Rh → M (List D)} (h : DA K w0 W X es m) : DE K w0 W X (.List es pos) (fun ρ => bind (m ρ) lstM) := by
  refine .mk' (fun ρ => mono_bind (h.mono ρ) fun _ => mono_need mono_ret) fun pins s σ ρ w Qd Ed I at_ r hE => ?_
  refine wpAny_List_spliced (thn (h.raw pos I at_ r hE) ?_)
  rintro us s1 ⟨vs, ds, w1, I1, n1, rv, rds, hz, r1⟩
  have hz' : vs.length ≤ sizeLine := by rw [rds.length]; exact hz
  have hf : w1.H s1.heap.objs.size = none := I1.fresh
  exact ⟨by rw [← rv.length]; exact hz', .ref s1.heap.objs.size, .lst ds, w1.lay s1.heap.objs.size (.lst vs), I1.lnew (t' := s1.toks) rv hz', n1.trans (n1.at_.nx (Step.lay n1.at_.st.ok hf)), rfl, lst_laid n1.at_.st.ok hf rds, r1⟩
theorem de_tup {es : List Expr} {x1} {m : Rh → M (List D)} (h : DA K w0 W X es m) : DE K w0 W X (.Tuple es x1 pos) (fun ρ => bind (m ρ) tupM) := by
  refine .mk' (fun ρ => mono_bind (h.mono ρ) fun _ => mono_need mono_ret) fun pins s σ ρ w Qd Ed I at_ r hE => ?_
  refine wpAny_Tuple_spliced (thn (h.raw pos I at_ r hE) ?_)
  rintro us s1 ⟨vs, ds, w1, I1, n1, rv, rds, hz, r1⟩
  have hz' : vs.length ≤ sizeLine := by rw [rds.length]; exact hz
  have hf : w1.H s1.heap.objs.size = none := I1.fresh
  refine ⟨by rw [← rv.length]; exact hz', .ref s1.heap.objs.size, .tup ds, w1.lay s1.heap.objs.size (.tup vs), I1.laid (t' := s1.toks) (o := .tup vs) (fun b u e => Heap.get?_push_of_some _ e) (Nat.le_refl _) ?_, n1.trans (n1.at_.nx (Step.lay n1.at_.st.ok hf)), rfl, tup_laid n1.at_.st.ok hf rds, r1⟩
  exact ⟨hz', us, rv, ⟨_, Heap.get?_push_size _ rfl, rfl, _, rfl⟩⟩
end
end Dn

namespace Dn
open PySem PySem.W PySem.Spec PyProof.Rows L2 TL Bits An
section
variable {K : Frag} {w0 w w1 : Wd} {W : WX} {X : Cx} {ρ : Rh} {σ : L2.St} {pins : List (Addr × Obj)} {s : Shared} {pos : Pos}
def GotS (K : Frag) (w0 : Wd) (X : Cx) (pins : List (Addr × Obj)) (w : Wd) (D : EndsD) (f : Flow) (s' : Shared) : Prop :=
  match f with
  | .next => ∃ ρ' σ' w', Inv X pins σ' w'.H s' ∧ Nw K w0 w w' ρ' σ' ∧ D.nx ρ' w'.S
  | .brk => ∃ ρ' σ' w', Inv X pins σ' w'.H s' ∧ Nw K w0 w w' ρ' σ' ∧ D.bk ρ' w'.S
  | .cont => ∃ ρ' σ' w', Inv X pins σ' w'.H s' ∧ Nw K w0 w w' ρ' σ' ∧ D.ct ρ' w'.S
  | .ret u => ∃ v d σ' w', Inv X pins σ' w'.H s' ∧ RelV v u ∧ Step K w0 w' ∧ RetOk K w0 w' d v ∧ D.rt d w'.S
theorem GotS.nw {D : EndsD} {f : Flow} {s' : Shared} {ρ' : Rh} {σ' : L2.St} (g : GotS K w0 X pins w1 D f s') (n : Nw K w0 w w1 ρ' σ') : GotS K w0 X pins w D f s' := by
  cases f with
  | next => obtain ⟨a, b, c, d, e, f⟩ := g; exact ⟨a, b, c, d, n.trans e, f⟩
  | brk => obtain ⟨a, b, c, d, e, f⟩ := g; exact ⟨a, b, c, d, n.trans e, f⟩
  | cont => obtain ⟨a, b, c, d, e, f⟩ := g; exact ⟨a, b, c, d, n.trans e, f⟩
  | ret u => exact g
theorem GotS.imp {D D' : EndsD} {f : Flow} {s' : Shared} (g : GotS K w0 X pins w D f s') (h1 : ∀ ρ S, D.nx ρ S → D'.nx ρ S) (h2 : ∀ d S, D.rt d S → D'.rt d S) (h3 : ∀ ρ S, D.bk ρ S → D'.bk ρ S) (h4 : ∀ ρ S, D.ct ρ S → D'.ct ρ S) : GotS K w0 X pins w D' f s' := by
  cases f with
  | next => obtain ⟨a, b, c, d, e, f⟩ := g; exact ⟨a, b, c, d, e, h1 _ _ f⟩
  | brk => obtain ⟨a, b, c, d, e, f⟩ := g; exact ⟨a, b, c, d, e, h3 _ _ f⟩
  | cont => obtain ⟨a, b, c, d, e, f⟩ := g; exact ⟨a, b, c, d, e, h4 _ _ f⟩
  | ret u => obtain ⟨a, b, c, d, e, f, g, h, i⟩ := g; exact ⟨a, b, c, d, e, f, g, h, h2 _ _ i⟩
def endsV (K : Frag) (w0 w : Wd) (D : EndsD) : Ends where
  nx := fun σ' H' => ∃ ρ' w', w'.H = H' ∧ Nw K w0 w w' ρ' σ' ∧ D.nx ρ' w'.S
  rt := fun v H' => ∃ d w', w'.H = H' ∧ Step K w0 w' ∧ RetOk K w0 w' d v ∧ D.rt d w'.S
  bk := fun σ' H' => ∃ ρ' w', w'.H = H' ∧ Nw K w0 w w' ρ' σ' ∧ D.bk ρ' w'.S
  ct := fun σ' H' => ∃ ρ' w', w'.H = H' ∧ Nw K w0 w w' ρ' σ' ∧ D.ct ρ' w'.S
theorem sp_got {D : EndsD} {f : Flow} {s' : Shared} (h : SP X pins (endsV K w0 w D) f s') : GotS K w0 X pins w D f s' := by
  cases f with
  | next => obtain ⟨σ', H', I', ρ', w', rfl, a, b⟩ := h; exact ⟨ρ', σ', w', I', a, b⟩
  | brk => obtain ⟨σ', H', I', ρ', w', rfl, a, b⟩ := h; exact ⟨ρ', σ', w', I', a, b⟩
  | cont => obtain ⟨σ', H', I', ρ', w', rfl, a, b⟩ := h; exact ⟨ρ', σ', w', I', a, b⟩
  | ret u => obtain ⟨v, σ', H', I', r, d, w', rfl, a, b, c⟩ := h; exact ⟨v, d, σ', w', I', r, a, b, c⟩
theorem got_sp {D : Ends} {f : Flow} {s' : Shared} (h : GotS K w0 X pins w (endsD K w0 W w D) f s') : SP X pins D f s' := by
  cases f with
  | next => obtain ⟨ρ', σ', w', I', a, b⟩ := h; exact ⟨σ', w'.H, I', b w' σ' rfl a⟩
  | brk => obtain ⟨ρ', σ', w', I', a, b⟩ := h; exact ⟨σ', w'.H, I', b w' σ' rfl a⟩
  | cont => obtain ⟨ρ', σ', w', I', a, b⟩ := h; exact ⟨σ', w'.H, I', b w' σ' rfl a⟩
  | ret u => obtain ⟨v, d, σ', w', I', r, a, b, c⟩ := h; exact ⟨v, σ', w'.H, I', r, c w' v rfl a b⟩
theorem ends_imp {m : Sm} (hm : MonoS m) {D : EndsD} (hE : Exc K w0 W w D.ex) {S : Sv} (r : m ρ S D) : m ρ S (endsD K w0 W w (endsV K w0 w D)) :=
  hm ρ S D _ (fun ρ' S' q w' σ' e n => ⟨ρ', w', rfl, n, by rw [e]; exact q⟩) (fun d S' q w' v e n r => ⟨d, w', rfl, n, r, by rw [e]; exact q⟩) (fun ρ' S' q w' σ' e n => ⟨ρ', w', rfl, n, by rw [e]; exact q⟩) (fun ρ' S' q w' σ' e n => ⟨ρ', w', rfl, n, by rw [e]; exact q⟩)
    (fun x ρ' S' q w' σ' c d e n rx => hE x ρ' w' σ' c d (by rw [e]; exact q) n rx) r
theorem DS.raw {st : Stmt} {m : Sm} (h : DS K w0 W X st m) {D : EndsD} (I : Inv X pins σ w.H s) (at_ : At K w0 w ρ σ) (r : m ρ w.S D) (hE : Exc K w0 W w D.ex) : wpAny (model X.prog X.w) X.A (exec st X.env) (GotS K w0 X pins w D) X.xe s :=
  thn (h.ps.run pins s σ w.H (endsV K w0 w D) I ⟨w, ρ, rfl, at_, ends_imp h.mono hE r⟩) fun _ _ => sp_got
theorem DSs.raw {st : List Stmt} {m : Sm} (h : DSs K w0 W X st m) {D : EndsD} (I : Inv X pins σ w.H s) (at_ : At K w0 w ρ σ) (r : m ρ w.S D) (hE : Exc K w0 W w D.ex) : wpAny (model X.prog X.w) X.A (execs st X.env) (GotS K w0 X pins w D) X.xe s :=
  thn (h.ps.run pins s σ w.H (endsV K w0 w D) I ⟨w, ρ, rfl, at_, ends_imp h.mono hE r⟩) fun _ _ => sp_got
theorem exc_ends {D : Ends} : Exc K w0 W w (endsD K w0 W w D).ex := fun _ _ w' σ' c d q n rx => q w' σ' c d rfl n rx
theorem DS.mk' {st : Stmt} {m : Sm} (hm : MonoS m) (h : ∀ (pins : List (Addr × Obj)) (s : Shared) (σ : L2.St) (ρ : Rh) (w : Wd) (D : EndsD), Inv X pins σ w.H s → At K w0 w ρ σ → m ρ w.S D → Exc K w0 W w D.ex →
    wpAny (model X.prog X.w) X.A (exec st X.env) (GotS K w0 X pins w D) X.xe s) : DS K w0 W X st m := by
  refine ⟨hm, ⟨fun pins s σ H D I hh => ?_⟩⟩
  obtain ⟨w, ρ, rfl, at_, r⟩ := hh
  exact thn (h pins s σ ρ w _ I at_ r exc_ends) fun _ _ => got_sp
theorem DSs.mk' {st : List Stmt} {m : Sm} (hm : MonoS m) (h : ∀ (pins : List (Addr × Obj)) (s : Shared) (σ : L2.St) (ρ : Rh) (w : Wd) (D : EndsD), Inv X pins σ w.H s → At K w0 w ρ σ → m ρ w.S D → Exc K w0 W w D.ex →
    wpAny (model X.prog X.w) X.A (execs st X.env) (GotS K w0 X pins w D) X.xe s) : DSs K w0 W X st m := by
  refine ⟨hm, ⟨fun pins s σ H D I hh => ?_⟩⟩
  obtain ⟨w, ρ, rfl, at_, r⟩ := hh
  exact thn (h pins s σ ρ w _ I at_ r exc_ends) fun _ _ => got_sp
def sNil : Sm := fun ρ S D => D.nx ρ S
def sSeq (a b : Sm) : Sm := fun ρ S D => a ρ S { D with nx := fun ρ' S' => b ρ' S' D }
theorem mono_nil : MonoS sNil := fun _ _ _ _ h _ _ _ _ q => h _ _ q
theorem mono_seq {a b : Sm} (ha : MonoS a) (hb : MonoS b) : MonoS (sSeq a b) := fun ρ S D D' h1 h2 h3 h4 h5 q => ha ρ S { D with nx := fun ρ' S' => b ρ' S' D } { D' with nx := fun ρ' S' => b ρ' S' D' } (fun ρ' S' q' => hb ρ' S' D D' h1 h2 h3 h4 h5 q') h2 h3 h4 h5 q
theorem dss_nil : DSs K w0 W X [] sNil := .mk' mono_nil fun pins s σ ρ w D I at_ r hE => wpAny_execs_nil ⟨ρ, σ, w, I, ⟨at_, Gle.refl _⟩, r⟩
theorem dss_cons {st : Stmt} {rest : List Stmt} {a b : Sm} (ha : DS K w0 W X st a) (hb : DSs K w0 W X rest b) : DSs K w0 W X (st :: rest) (sSeq a b) := by
  refine .mk' (mono_seq ha.mono hb.mono) fun pins s σ ρ w D I at_ r hE => wpAny_execs_cons (thn (ha.raw I at_ r hE) ?_)
  intro f s1 g
  cases f with
  | next =>
    obtain ⟨ρ', σ', w', I', n, q⟩ := g
    exact thn (hb.raw I' n.at_ q (hE.nw n)) fun f s2 g => g.nw n
  | ret v => exact g
  | brk => exact g
  | cont => exact g
theorem dss_one {st : Stmt} {a : Sm} (ha : DS K w0 W X st a) : DSs K w0 W X [st] a := by
  refine .mk' ha.mono fun pins s σ ρ w D I at_ r hE => wpAny_execs_cons (thn (ha.raw I at_ r hE) ?_)
  intro f s1 g
  cases f with
  | next => exact wpAny_execs_nil g
  | ret v => exact g
  | brk => exact g
  | cont => exact g
def sBrk : Sm := fun ρ S D => D.bk ρ S
def sCont : Sm := fun ρ S D => D.ct ρ S
def sExpr (e : Rh → M D) : Sm := fun ρ S D => e ρ S (fun _ S' => D.nx ρ S') (D.ex · ρ ·)
def sRet (e : Rh → M D) : Sm := fun ρ S D => e ρ S D.rt (D.ex · ρ ·)
theorem ds_ret {e : Expr} {m : Rh → M D} (h : DE K w0 W X e m) : DS K w0 W X (.Return (some e) pos) (sRet m) := by
  refine .mk' (fun ρ S D D' h1 h2 h3 h4 h5 q => h.mono ρ _ _ _ _ _ h2 (fun x S' => h5 x ρ S') q) fun pins s σ ρ w D I at_ r hE => wpAny_Return_some (thn (h.raw I at_ r (hE.e ρ σ)) ?_)
  rintro u s1 ⟨v, d, w1, I1, n1, rv, rd, q⟩
  exact ⟨v, d, σ, w1, I1, rv, n1.at_.st, .inl rd, q⟩
def sRetN : Sm := fun _ S D => D.rt .non S
def sIf (c : Rh → M Bool) (a b : Sm) : Sm := fun ρ S D => c ρ S (fun k S' => iteP k (a ρ S' D) (b ρ S' D)) (D.ex · ρ ·)
theorem ds_if {c : Expr} {a b : List Stmt} {mc : Rh → M Bool} {ma mb : Sm} (hc : DT K w0 W X c mc) (ha : DSs K w0 W X a ma) (hb : DSs K w0 W X b mb) : DS K w0 W X (.If c a b pos) (sIf mc ma mb) := by
  refine .mk' (fun ρ S D D' h1 h2 h3 h4 h5 q => hc.mono ρ _ _ _ _ _ (fun k S' q => ?_) (fun x S' => h5 x ρ S') q) fun pins s σ ρ w D I at_ r hE => wpAny_If (thn (hc.raw I at_ r (hE.e ρ σ)) ?_)
  · cases k with
    | true => exact ⟨fun _ => ha.mono _ _ _ _ h1 h2 h3 h4 h5 (q.1 rfl), fun z => by cases z⟩
    | false => exact ⟨fun z => (by cases z), fun _ => hb.mono _ _ _ _ h1 h2 h3 h4 h5 (q.2 rfl)⟩
  · rintro k s1 ⟨w1, I1, n1, q⟩
    cases k with
    | true => exact thn (ha.raw I1 n1.at_ (q.1 rfl) (hE.nw n1.nw)) fun f s2 g => g.nw n1.nw
    | false => exact thn (hb.raw I1 n1.at_ (q.2 rfl) (hE.nw n1.nw)) fun f s2 g => g.nw n1.nw
def sNo : Sm := fun _ _ _ => False
abbrev Tg := D → Rh → (Rh → Prop) → Prop
def OnlyAt (is : List Nat) (σ σ' : L2.St) : Prop := ∀ vs : List Nat, (∀ i ∈ is, i ∈ vs) → wipe σ' vs = wipe σ vs
theorem OnlyAt.refl {is : List Nat} {σ : L2.St} : OnlyAt is σ σ := fun _ _ => rfl
theorem OnlyAt.trans {is js : List Nat} {σ σ1 σ2 : L2.St} (a : OnlyAt is σ σ1) (b : OnlyAt js σ1 σ2) : OnlyAt (is ++ js) σ σ2 := fun vs h =>
  (b vs fun i hi => h i (List.mem_append_right _ hi)).trans (a vs fun i hi => h i (List.mem_append_left _ hi))
theorem wipe_set {σ : L2.St} {i : Nat} {o : Option V} : ∀ {vs : List Nat}, i ∈ vs → wipe (σ.set i o) vs = wipe σ vs
  | v :: vs, h => by
    unfold wipe
    by_cases e : i = v
    · subst e
      by_cases h2 : i ∈ vs
      · rw [wipe_set h2]
      · have : ∀ (σ : L2.St) (vs : List Nat), i ∉ vs → wipe (σ.set i o) vs = (wipe σ vs).set i o := by
          intro σ vs
          induction vs with
          | nil => intro _; rfl
          | cons u us ih =>
            intro hn
            unfold wipe
            rw [ih (fun z => hn (List.mem_cons_of_mem _ z)), List.set_comm _ _ (fun z => hn (by rw [z]; exact List.mem_cons_self))]
        rw [this σ vs h2, List.set_set]
    · rw [wipe_set (List.mem_of_ne_of_mem e h)]
theorem OnlyAt.set {i : Nat} {σ : L2.St} {o : Option V} : OnlyAt [i] σ (σ.set i o) := fun _ h => wipe_set (h i (by simp))
structure DG (K : Frag) (w0 : Wd) (W : WX) (X : Cx) (tg : Expr) (is : List Nat) (g : Tg) : Prop where
  mono : ∀ d ρ k k', (∀ ρ', k ρ' → k' ρ') → g d ρ k → g d ρ k'
  ex : ∀ d ρ k, g d ρ k → ∃ ρ', k ρ'
  run : ∀ (pins : List (Addr × Obj)) (s : Shared) (σ : L2.St) (ρ : Rh) (w : Wd) (v : V) (u : Value) (d : D) (k : Rh → Prop), Inv X pins σ w.H s → At K w0 w ρ σ → RelV v u → Rep K w.toGd d v → g d ρ k →
    wpAny (model X.prog X.w) X.A (assign tg X.env u) (fun _ s' => ∃ ρ' σ', Inv X pins σ' w.H s' ∧ At K w0 w ρ' σ' ∧ OnlyAt is σ σ' ∧ k ρ') X.xe s
theorem Good.set {i : Nat} {d : D} {v : V} (g : Good K w0 w ρ σ) (r : Rep K w.toGd d v) : Good K w0 w (ρ.set i (.sh d)) (σ.set i (some v)) where
  len := by rw [List.length_set, List.length_set]; exact g.len
  at_ := fun j t e => by
    by_cases h : j = i
    · subst h
      have hl : j < ρ.length := by
        have := (List.getElem?_eq_some_iff.mp e).1
        rwa [List.length_set] at this
      rw [List.getElem?_set_self hl] at e
      cases e
      exact ⟨v, by rw [List.getElem?_set_self (by rw [← g.len]; exact hl)]; rfl, r⟩
    · rw [List.getElem?_set_ne (Ne.symm h)] at e ⊢
      exact g.at_ j t e
  ne := fun a b s t x hab ea eb sa sb ea' => by
    have nS : ∀ {j : Nat} {t : Sl}, (ρ.set i (.sh d))[j]? = some t → t.own = true → j ≠ i ∧ ρ[j]? = some t := fun {j t} e o => by
      by_cases h : j = i
      · subst h
        have hl : j < ρ.length := by
          have := (List.getElem?_eq_some_iff.mp e).1
          rwa [List.length_set] at this
        rw [List.getElem?_set_self hl] at e
        cases e; cases o
      · rw [List.getElem?_set_ne (Ne.symm h)] at e
        exact ⟨h, e⟩
    obtain ⟨n1, e1⟩ := nS ea sa
    obtain ⟨n2, e2⟩ := nS eb sb
    rw [List.getElem?_set_ne (Ne.symm n1)] at ea'
    rw [List.getElem?_set_ne (Ne.symm n2)]
    exact g.ne a b s t x hab e1 e2 sa sb ea'
theorem At.set {i : Nat} {d : D} {v : V} (a : At K w0 w ρ σ) (r : Rep K w.toGd d v) : At K w0 w (ρ.set i (.sh d)) (σ.set i (some v)) := ⟨a.st, a.good.set r⟩
def gN (i : Nat) : Tg := fun d ρ k => k (ρ.set i (.sh d))
theorem dg_name {i : Nat} {x : Str} (hN : X.N.Nodup) (hi : X.N[i]? = some x) (hx : Loc X.env.scope x) (hf : X.fn x = true ∨ X.env.scope.names.lookup x = some .local := by first | exact .inl rfl | exact .inr rfl | assumption) : DG K w0 W X (.Name x pos) [i] (gN i) :=
  ⟨fun _ _ _ _ h q => h _ q, fun _ _ _ q => ⟨_, q⟩, fun pins s σ ρ w v u d k I at_ rv rd q => wpAny_assign_Name (store_ok I hN hi hx rv (fun s' I' => ⟨_, _, I', at_.set rd, OnlyAt.set, q⟩) hf)⟩
abbrev Tgs := List D → Rh → (Rh → Prop) → Prop
structure DGs (K : Frag) (w0 : Wd) (W : WX) (X : Cx) (ts : List Expr) (is : List Nat) (g : Tgs) : Prop where
  mono : ∀ d ρ k k', (∀ ρ', k ρ' → k' ρ') → g d ρ k → g d ρ k'
  ex : ∀ ds ρ k, g ds ρ k → ∃ ρ', k ρ'
  len : ∀ ds ρ k, g ds ρ k → ds.length = ts.length
  run : ∀ (pins : List (Addr × Obj)) (s : Shared) (σ : L2.St) (ρ : Rh) (w : Wd) (vs : List V) (us : List Value) (ds : List D) (k : Rh → Prop), Inv X pins σ w.H s → At K w0 w ρ σ → Vals vs us → RepL K w.toGd ds vs → g ds ρ k →
    wpAny (model X.prog X.w) X.A (assignInOrder ((assignEach ts X.env).map (·.2)) us) (fun _ s' => ∃ ρ' σ', Inv X pins σ' w.H s' ∧ At K w0 w ρ' σ' ∧ OnlyAt is σ σ' ∧ k ρ') X.xe s
def gsNil : Tgs := fun ds ρ k => match ds with
  | [] => k ρ
  | _ => False
def gsCons (t : Tg) (u : Tgs) : Tgs := fun ds ρ k => match ds with
  | d :: r => t d ρ fun ρ' => u r ρ' k
  | [] => False
theorem dgs_nil : DGs K w0 W X [] [] gsNil := ⟨fun d ρ k k' h q => by cases d with | nil => exact h _ q | cons _ _ => exact q, fun ds ρ k q => by cases ds with | nil => exact ⟨_, q⟩ | cons _ _ => exact q.elim, fun ds ρ k q => by cases ds with | nil => rfl | cons _ _ => exact q.elim, fun pins s σ ρ w vs us ds k I at_ rv rds q => by
  cases ds with
  | cons _ _ => exact q.elim
  | nil =>
    unfold RepL at rds
    subst rds
    cases rv
    exact assignInOrder_nil ⟨ρ, σ, I, at_, OnlyAt.refl, q⟩⟩
theorem dgs_cons {e : Expr} {es : List Expr} {t : Tg} {u : Tgs} {is js : List Nat} (h1 : DG K w0 W X e is t) (h2 : DGs K w0 W X es js u) (hs : (assignEach (e :: es) X.env).map (·.2) = assign e X.env :: (assignEach es X.env).map (·.2) := by rfl) : DGs K w0 W X (e :: es) (is ++ js) (gsCons t u) := by
  refine ⟨fun d ρ k k' h q => ?_, fun ds ρ k q => ?_, fun ds ρ k q => ?_, fun pins s σ ρ w vs us ds k I at_ rv rds q => ?_⟩
  · cases d with
    | nil => exact q
    | cons d r => exact h1.mono _ _ _ _ (fun ρ' q' => h2.mono _ _ _ _ h q') q
  · cases ds with
    | nil => exact q.elim
    | cons d r =>
      obtain ⟨ρ', q'⟩ := h1.ex _ _ _ q
      exact h2.ex _ _ _ q'
  · cases ds with
    | nil => exact q.elim
    | cons d r =>
      have q : t d ρ fun ρ' => u r ρ' k := q
      obtain ⟨ρ', q'⟩ := h1.ex _ _ _ q
      rw [List.length_cons, List.length_cons, h2.len _ _ _ q']
  · cases ds with
    | nil => exact q.elim
    | cons d r =>
      unfold RepL at rds
      obtain ⟨v, vr, rfl, r1, r2⟩ := rds
      cases rv with
      | cons rv rr =>
        rw [hs]
        refine assignInOrder_cons (thn (h1.run pins s σ ρ w _ _ _ _ I at_ rv r1 q) ?_)
        rintro _ s1 ⟨ρ1, σ1, I1, at1, o1, q1⟩
        refine thn (h2.run pins s1 σ1 ρ1 w _ _ _ _ I1 at1 rr r2 q1) ?_
        rintro _ s2 ⟨ρ2, σ2, I2, at2, o2, q2⟩
        exact ⟨ρ2, σ2, I2, at2, o1.trans o2, q2⟩
def gT (t : Tgs) : Tg := fun d ρ k => match d with
  | .tup ds => t ds ρ k
  | _ => False
theorem dg_tup {es : List Expr} {k0 : Nat} {t : Tgs} {is : List Nat} (hc : X.calm = true) (h : DGs K w0 W X es is t) (hn : (assignEach es X.env).length = es.length := by rfl) (hst : (assignEach es X.env).findIdx? (·.1) = none := by rfl) (hK : X.K = K := by rfl) : DG K w0 W X (.Tuple es k0 pos) is (gT t) := by
  subst hK
  refine ⟨fun d ρ k k' hh q => ?_, fun d ρ k q => ?_, fun pins s σ ρ w v u d k I at_ rv rd q => ?_⟩
  · cases d <;> first | exact h.mono _ _ _ _ hh q | exact q
  · cases d <;> first | exact h.ex _ _ _ q | exact q.elim
  · cases d <;> first | exact q.elim | skip
    rename_i ds
    have q : t ds ρ k := q
    unfold Rep at rd
    obtain ⟨a, vs, rfl, hq, rds⟩ := rd
    cases rv
    obtain ⟨its, rvs, ht, hz⟩ := I.tuple (sqT_le at_.st.ok.le hq)
    have hl := h.len _ _ _ q
    have hl2 := rds.length
    refine assign_Tuple_tuple (I.ok.hd hc) ht (by simp [hn, ← hl, ← hl2, rvs.length]) hst fun h' hx => ?_
    have I1 : Inv X pins σ w.H { s with heap := h' } := I.kept (t' := s.toks) fun b o e => hx b o (Nat.ne_of_lt (Heap.lt_size e)) e
    exact h.run pins _ σ ρ w vs _ ds k I1 at_ (by simpa using rvs) rds q
def sSet (g : Tg) (e : Rh → M D) : Sm := fun ρ S D => e ρ S (fun d S' => g d ρ fun ρ' => D.nx ρ' S') (D.ex · ρ ·)
theorem mono_set {g : Tg} {e : Rh → M D} (hg : ∀ d ρ k k', (∀ ρ', k ρ' → k' ρ') → g d ρ k → g d ρ k') (he : ∀ ρ, Mono (e ρ)) : MonoS (sSet g e) := fun ρ S D D' h1 h2 h3 h4 h5 q => he ρ _ _ _ _ _ (fun d S' q => hg _ _ _ _ (fun ρ' => h1 ρ' S') q) (fun x S' => h5 x ρ S') q
theorem ds_asg {tg e : Expr} {m : Rh → M D} {g : Tg} {is : List Nat} (he : DE K w0 W X e m) (hg : DG K w0 W X tg is g) (hs : swapsWithSole [tg] e pos.line X.env = pure false := by rfl) (hw : swappedStores [tg] e X.env = pure none := by rfl)
    (h1 : (assignEach [tg] X.env).map (·.2) = [assign tg X.env] := by rfl) : DS K w0 W X (.Assign [tg] e pos) (sSet g m) := by
  refine .mk' (mono_set hg.mono he.mono) fun pins s σ ρ w D I at_ r hE => wpAny_Assign_stores (thn (he.raw I at_ r (hE.e ρ σ)) ?_) hs hw
  rintro u s1 ⟨v, d, w1, I1, n1, rv, rd, q⟩
  rw [h1]
  refine thn (hg.run pins s1 σ ρ w1 v u d _ I1 n1.at_ rv rd q) ?_
  rintro _ s2 ⟨ρ', σ', I2, at2, _, q2⟩
  exact ⟨ρ', σ', w1, I2, ⟨at2, n1.le⟩, q2⟩
theorem ds_set {i : Nat} {x : Str} {e : Expr} {m : Rh → M D} {pos' : Pos} (hN : X.N.Nodup) (hi : X.N[i]? = some x) (hx : Loc X.env.scope x) (he : DE K w0 W X e m) (hs : swapsWith e (some (.Name x pos')) pos.line X.env = pure false := by rfl)
    (hf : X.fn x = true ∨ X.env.scope.names.lookup x = some .local := by first | exact .inl rfl | exact .inr rfl | assumption) : DS K w0 W X (.Assign [.Name x pos'] e pos) (sSet (gN i) m) := by
  refine .mk' (mono_set (fun _ _ _ _ h q => h _ q) he.mono) fun pins s σ ρ w D I at_ r hE => wpAny_Assign_Name (thn (he.raw I at_ r (hE.e ρ σ)) ?_) hs
  rintro u s1 ⟨v, d, w1, I1, n1, rv, rd, q⟩
  exact store_ok I1 hN hi hx rv (fun s2 I2 => ⟨_, _, w1, I2, ⟨n1.at_.set rd, n1.le⟩, q⟩) hf
def sPar (i j : Nat) (m : Rh → M (List D)) : Sm := fun ρ S D => m ρ S (fun ds S' => match ds with
  | [a, b] => D.nx ((ρ.set i (.sh a)).set j (.sh b)) S'
  | _ => False) (D.ex · ρ ·)
def whl (c : Rh → M Bool) (b : Sm) : Nat → Sm
  | 0 => sNo
  | n + 1 => fun ρ S D => c ρ S (fun k S' => iteP k (b ρ S' { D with nx := fun ρ' S'' => whl c b n ρ' S'' D, ct := fun ρ' S'' => whl c b n ρ' S'' D, bk := D.nx }) (D.nx ρ S')) (D.ex · ρ ·)
def sWhile (c : Rh → M Bool) (b : Sm) : Sm := fun ρ S D => ∃ n, whl c b n ρ S D
structure ItOk (K : Frag) (w : Wd) (J : It) (ds : List D) : Prop where
  stop : ∀ w', Gle w.toGd w'.toGd → Wok K w' → J.stop ds.length w'.H
  go : ∀ w' (i : Nat), Gle w.toGd w'.toGd → Wok K w' → i < ds.length → J.go i w'.H
  yld : ∀ w' (i : Nat) d x H', Gle w.toGd w'.toGd → Wok K w' → ds[i]? = some d → J.yld i w'.H x H' → ∃ w'', w''.H = H' ∧ w''.S = w'.S ∧ Step K w' w'' ∧ Rep K w''.toGd d x
structure DI (K : Frag) (w0 : Wd) (W : WX) (X : Cx) (tg iter : Expr) (m : Rh → M (List D)) : Prop where
  mono : ∀ ρ, Mono (m ρ)
  run : ∀ (pins : List (Addr × Obj)) (s : Shared) (σ : L2.St) (ρ : Rh) (w : Wd) (Qd : List D → Sv → Prop) (Ed : Xn → Sv → Prop), Inv X pins σ w.H s → At K w0 w ρ σ → m ρ w.S Qd Ed → ExcE K w0 W w ρ σ Ed →
    wpAny (model X.prog X.w) X.A (eval iter X.env) (fun v s1 => wpAny (model X.prog X.w) X.A (pyIter v) (PIE X pins σ tg fun J H' => ∃ ds w', w'.H = H' ∧ Nx K w0 w w' ρ σ ∧ ItOk K w' J ds ∧ Qd ds w'.S) X.xe s1) X.xe s
def forL (g : Tg) (b : Sm) : List D → Sm
  | [] => sNil
  | d :: ds => fun ρ S D => g d ρ fun ρ' => b ρ' S { D with nx := fun ρ2 S2 => forL g b ds ρ2 S2 D, ct := fun ρ2 S2 => forL g b ds ρ2 S2 D, bk := D.nx }
def sFor (it : Rh → M (List D)) (g : Tg) (b : Sm) : Sm := fun ρ S D => it ρ S (fun ds S' => forL g b ds ρ S' D) (D.ex · ρ ·)
theorem mono_forL {g : Tg} {b : Sm} (hg : ∀ d ρ k k', (∀ ρ', k ρ' → k' ρ') → g d ρ k → g d ρ k') (hb : MonoS b) : ∀ ds, MonoS (forL g b ds)
  | [] => mono_nil
  | d :: ds => fun ρ S D D' h1 h2 h3 h4 h5 q => hg _ _ _ _ (fun ρ' q => hb _ _ { D with nx := fun ρ2 S2 => forL g b ds ρ2 S2 D, ct := fun ρ2 S2 => forL g b ds ρ2 S2 D, bk := D.nx } _ (fun ρ' S'' q => mono_forL hg hb ds _ _ _ _ h1 h2 h3 h4 h5 q) h2 h1 (fun ρ' S'' q => mono_forL hg hb ds _ _ _ _ h1 h2 h3 h4 h5 q) h5 q) q
theorem ds_for {is : List Nat} {tg iter : Expr} {body : List Stmt} {mi : Rh → M (List D)} {g : Tg} {mb : Sm} (hp : PassesOwn (model X.prog X.w) X.A X.env X.xe) (hc : X.calm = true) (hi : DI K w0 W X tg iter mi) (hg : DG K w0 W X tg is g) (hb : DSs K w0 W X body mb)
    (hs : ∀ x, foldedSetIterable iter X.env x = pure x := by intro _; rfl) : DS K w0 W X (.For tg iter body [] pos) (sFor mi g mb) := by
  refine .mk' (fun ρ S D D' h1 h2 h3 h4 h5 q => hi.mono ρ _ _ _ _ _ (fun ds S' q => mono_forL hg.mono hb.mono ds _ _ _ _ h1 h2 h3 h4 h5 q) (fun x S' => h5 x ρ S') q) fun pins s σ ρ w D I at_ r hE => ?_
  refine wpAny_For (thn (hi.run pins s σ ρ w _ _ I at_ r (hE.e ρ σ)) fun v s1 h1 => thn h1 ?_) hs
  rintro itv s2 ⟨it, fp, tn, J, H2, e, I2, T, st2, f2, ds, w2, rfl, n2, ok, r2⟩
  subst e
  have stat : ∀ {H' : Hp}, (∀ b ∈ fp, H' b = none) → ∀ b ∈ fp, FpOk X pins H' b := fun hn b hb => ⟨hn b hb, (f2 b hb).2⟩
  refine codeAny_forLoop_any (fun n s' => ∃ i ρ' σ' w', n = ds.length - i ∧ i ≤ ds.length ∧ Inv X pins σ' w'.H s' ∧ tn i s'.heap ∧ (∀ b ∈ fp, w'.H b = none) ∧ Nw K w0 w2 w' ρ' σ' ∧ forL g mb (ds.drop i) ρ' w'.S D) ?_ ds.length
    ⟨0, ρ, σ, w2, by simp, Nat.zero_le _, I2, st2, fun b hb => (f2 b hb).1, ⟨n2.at_, Gle.refl _⟩, r2⟩
  rintro n s3 ⟨i, ρ3, σ3, w3, rfl, hi3, I3, st3, fr3, n3, r3⟩
  have nn := n2.nw.trans n3
  by_cases hlt : i < ds.length
  · obtain ⟨d, hd⟩ : ∃ d, ds[i]? = some d := ⟨ds[i], by simp [hlt]⟩
    have ed : ds.drop i = d :: ds.drop (i + 1) := by
      rw [List.drop_eq_getElem_cons hlt]
      have := List.getElem?_eq_some_iff.mp hd
      rw [this.2]
    rw [ed] at r3
    refine wpAny_passesOwn hp (thn (T.item X rfl rfl rfl hc i pins s3 σ3 w3.H X.xe I3 (stat fr3) st3 (ok.go w3 i n3.le n3.at_.st.ok hlt)) ?_)
    rintro r s4 ⟨u, hr, h4⟩
    subst hr
    refine wpAny_passesOwn hp (thn h4 ?_)
    rintro _ s5 ⟨x, H5, I5, r5, y5, st5, fr5⟩
    obtain ⟨w5, rfl, e5, stp5, rep5⟩ := ok.yld w3 i d x H5 n3.le n3.at_.st.ok hd y5
    have I5' := I5.pinned (stat fr5) (T.obj _ _ st5)
    refine wpAny_passesOwn hp (thn (hg.run _ s5 σ3 ρ3 w5 x u d _ I5' (n3.at_.step stp5) r5 rep5 (by exact r3)) ?_)
    rintro _ s6 ⟨ρ6, σ6, I6, at6, _, q6⟩
    rw [← e5] at q6
    refine wpAny_passesOwn hp (thn (hb.raw I6 at6 q6 (hE.nw (nn.trans ⟨at6, stp5.le⟩))) ?_)
    intro f s7 g7
    have n6 : Nw K w0 w2 w5 ρ6 σ6 := n3.trans ⟨at6, stp5.le⟩
    have again : ∀ {ρ7 : Rh} {σ7 : L2.St} {w7 : Wd}, Inv X (pins ++ pinsAt fp s5.heap) σ7 w7.H s7 → Nw K w0 w5 w7 ρ7 σ7 → forL g mb (ds.drop (i + 1)) ρ7 w7.S D →
        ∃ m, m < ds.length - i ∧ ∃ i ρ' σ' w', m = ds.length - i ∧ i ≤ ds.length ∧ Inv X pins σ' w'.H s7 ∧ tn i s7.heap ∧ (∀ b ∈ fp, w'.H b = none) ∧ Nw K w0 w2 w' ρ' σ' ∧ forL g mb (ds.drop i) ρ' w'.S D := fun {ρ7 σ7 w7} I7 n7 q7 => by
      refine ⟨ds.length - (i + 1), by omega, i + 1, ρ7, σ7, w7, rfl, hlt, I7.unpinned, T.keep _ _ _ st5 fun b hb o e => (I7.pin (b, o) (List.mem_append_right _ (List.mem_append_right _ (mem_pinsAt hb e)))).1, fun b hb => ?_, n6.trans n7, q7⟩
      obtain ⟨o, e, d⟩ := T.obj _ _ st5 b hb
      exact (I7.pin (b, o) (List.mem_append_right _ (List.mem_append_right _ (mem_pinsAt hb e)))).2.1
    cases f with
    | next => obtain ⟨ρ7, σ7, w7, I7, n7, q7⟩ := g7; exact again I7 n7 q7
    | cont => obtain ⟨ρ7, σ7, w7, I7, n7, q7⟩ := g7; exact again I7 n7 q7
    | brk => obtain ⟨ρ7, σ7, w7, I7, n7, q7⟩ := g7; exact ⟨ρ7, σ7, w7, I7.unpinned, (n2.nw.trans n6).trans n7, q7⟩
    | ret v => obtain ⟨v7, d7, σ7, w7, I7, a, b, c, d⟩ := g7; exact ⟨v7, d7, σ7, w7, I7.unpinned, a, b, c, d⟩
  · have e : i = ds.length := by omega
    subst e
    rw [List.drop_length] at r3
    refine wpAny_passesOwn hp (thn (T.done X rfl rfl rfl hc ds.length pins s3 σ3 w3.H X.xe I3 (stat fr3) st3 (ok.stop w3 n3.le n3.at_.st.ok)) ?_)
    rintro r s4 ⟨hr, I4⟩
    subst hr
    exact wpAny_execs_nil ⟨ρ3, σ3, w3, I4, nn, r3⟩
end
end Dn

namespace Dn
open PySem PySem.W PySem.Spec PyProof.Rows L2 TL Bits An
def endsF (Q : D → Sv → Prop) (E : Xn → Sv → Prop) : EndsD where
  nx := fun _ S' => Q .non S'
  rt := Q
  bk := fun _ _ => False
  ct := fun _ _ => False
  ex := fun x _ S' => E x S'
def startD (N : Nat) (ds : List D) : Rh := ds.map Sl.sh ++ List.replicate (N - ds.length) Sl.un
def mkF (n N : Nat) (code : Sm) : List D → M D := fun ds S Q E => match Nat.beq ds.length n with
  | true => code (startD N ds) S (endsF Q E)
  | false => False
theorem mono_mkF {n N : Nat} {code : Sm} (h : MonoS code) (ds : List D) : Mono (mkF n N code ds) := fun S Q Q' E E' q e x => by
  unfold mkF at x ⊢
  split at x
  · exact h _ _ (endsF Q E) (endsF Q' E') (fun _ _ => q _ _) (fun _ _ => q _ _) (fun _ _ z => z) (fun _ _ z => z) (fun _ _ _ => e _ _) x
  · exact x
theorem mkF_len {n N : Nat} {code : Sm} {ds : List D} {S : Sv} {Q : D → Sv → Prop} {E : Xn → Sv → Prop} (h : mkF n N code ds S Q E) : ds.length = n ∧ code (startD N ds) S (endsF Q E) := by
  unfold mkF at h
  split at h
  · rename_i e
    exact ⟨Nat.eq_of_beq_eq_true e, h⟩
  · exact h.elim
def spD (K : Frag) (F : List D → M D) : Sp := fun vs H Q E => ∃ w ds, w.H = H ∧ Wok K w ∧ RepL K w.toGd ds vs ∧
  F ds w.S (fun d S' => ∀ w' v, w'.S = S' → Step K w w' → Rep K w'.toGd d v → Q v w'.H) (fun x S' => ∀ w' c d, w'.S = S' → Step K w w' → RepX K w'.toGd x c d → E c d w'.H)
structure FD (P : Program) (wd : World) (K : Frag) (mg : Str → Option Value) (base : Heap) (k : Nat) (f : Addr) (F : List D → M D) : Prop where
  ok : Wc P wd K mg base k f (spD K F)
  mono : ∀ ds, Mono (F ds)
theorem FD.up {P : Program} {wd : World} {K : Frag} {mg : Str → Option Value} {base : Heap} {j k : Nat} {f : Addr} {F : List D → M D} (h : FD P wd K mg base j f F) (l : j ≤ k := by decide) : FD P wd K mg base k f F := ⟨FnR.mono h.ok l, h.mono⟩
section
variable {K : Frag} {w0 w w1 : Wd} {W : WX} {X : Cx} {ρ : Rh} {σ : L2.St} {pins : List (Addr × Obj)} {s : Shared} {pos : Pos}
theorem good_start {N : Nat} {ds : List D} {vs : List V} (r : RepL K w.toGd ds vs) : Good K w w (startD N ds) (vs.map some ++ List.replicate (N - vs.length) none) where
  len := by unfold startD; simp [r.length]
  at_ := fun i t e => by
    unfold startD at e
    by_cases h : i < ds.length
    · rw [List.getElem?_append_left (by simpa using h), List.getElem?_map] at e
      obtain ⟨d, hd⟩ : ∃ d, ds[i]? = some d := ⟨ds[i], by simp [h]⟩
      rw [hd] at e
      cases e
      obtain ⟨v, hv, rv⟩ := r.get hd
      refine ⟨v, ?_, rv⟩
      rw [List.getElem?_append_left (by rw [List.length_map, r.length]; exact h), List.getElem?_map, hv]
      rfl
    · rw [List.getElem?_append_right (by simpa using h)] at e
      have := List.getElem?_eq_some_iff.mp e
      have e2 : t = Sl.un := by rw [← this.2]; simp
      subst e2
      trivial
  ne := fun i j a b x _ ea _ sa => by
    exfalso
    unfold startD at ea
    by_cases h : i < ds.length
    · rw [List.getElem?_append_left (by simpa using h), List.getElem?_map] at ea
      obtain ⟨d, hd⟩ : ∃ d, ds[i]? = some d := ⟨ds[i], by simp [h]⟩
      rw [hd] at ea
      cases ea
      cases sa
    · rw [List.getElem?_append_right (by simpa using h)] at ea
      have := List.getElem?_eq_some_iff.mp ea
      have e2 : a = Sl.un := by rw [← this.2]; simp
      subst e2
      cases sa
end
section
variable {P : Program} {wd : World} {K : Frag} {mg : Str → Option Value} {base : Heap}
abbrev WE (E : XK) : WX := fun c d _ H => E c d H
theorem body_of {N ps : List Str} {code : Sm} {X : Cx} {body : List Stmt} {vs : List V} {H : Hp} {Q : VK} {E : XK} {w : Wd} {ds : List D} (hN : X.N = N) (h : DSs K w.plain (WE E) X body code)
    (e : w.H = H) (ok : Wok K w) (r : RepL K w.toGd ds vs) (q : mkF ps.length N.length code ds w.S (fun d S' => ∀ w' v, w'.S = S' → Step K w w' → Rep K w'.toGd d v → Q v w'.H) (fun x S' => ∀ w' c d, w'.S = S' → Step K w w' → RepX K w'.toGd x c d → E c d w'.H)) :
    tS K w.plain (WE E) code { nx := fun _ H' => Q .non H', rt := Q } (L2.start N vs) H := by
  obtain ⟨_, q⟩ := mkF_len q
  refine ⟨w.plain, startD N.length ds, e, ⟨Step.refl ok.plain, ?_⟩, ?_⟩
  · unfold L2.start; exact good_start (w := w.plain) r
  · refine h.mono _ _ (endsF _ _) _ ?_ ?_ (fun _ _ z => z.elim) (fun _ _ z => z.elim) ?_ q
    · intro ρ' S' q w' σ' e n
      exact q w' .non e n.at_.st.unplain (by unfold Rep; rfl)
    · intro d S' q w' v e n r
      exact q w' v e n.unplain (r.rep rfl)
    · intro x ρ' S' q w' σ' c d e n rx
      exact q w' c d e n.at_.st.unplain rx
theorem room0 {k : Nat} (hk : k ≤ 300) (env : Env) : Room k (({} : Around).deeper env) :=
  Room.deeper (⟨rfl, by show 0 + 3 * (k + 1) + 5 < recursionLimit; simp only [recursionLimit]; omega, by show 1 + 16 * (k + 1) + 200 < cLine; simp only [cLine]; omega⟩ : Room (k + 1) ({} : Around)) env
def wd0 : Wd := ⟨⟨fun _ => none, []⟩, fun _ => none, fun _ => False, [], none, none, none, false⟩
theorem fd_of {x q : Str} {st : Stmt} {f : Addr} {N ps : List Str} {k : Nat} {code : Sm} (F : FnS K x q st f) (S : FnScope N ps (defScope st))
    (hb : ∀ (kV doc pm : Value) (an : Option Addr) (cdv ct : Value) (us : List Value), us.length = ps.length → bindArgs (PySem.W.fnOf x q (defArgs st) (defBody st) (defScope st) .none kV doc pm an cdv ct) ⟨us, []⟩ = pure (ps.zip us)) (hk : k ≤ 300)
    (h : ∀ (cdv : Value) (A : Around) (outer : List Env) (s : Shared) (H : Hp) (E : XK) (w0 : Wd), Room k (A.deeper (envOfC q (defScope st) s.heap.objs.size f cdv)) → DSs K w0 (WE E) (cxOf (L2.CX P wd) P wd K mg base N q (defScope st) f cdv A outer s H E) (defBody st) code) :
    FD P wd K mg base (k + 1) f (mkF ps.length N.length code) := by
  have hm : MonoS code := (h .none {} [] {} (fun _ => none) (fun _ _ _ => False) wd0 (room0 hk _)).mono
  refine ⟨fnr F S (fun vs H Q E hh => ?_) hb (fun cdv A outer s H vs Q E hr hh => ?_), mono_mkF hm⟩
  · obtain ⟨w, ds, _, _, r, q⟩ := hh
    rw [r.length]
    exact (mkF_len q).1
  · obtain ⟨w, ds, e, ok, r, q⟩ := hh
    exact ⟨_, (h cdv A outer s H E w.plain hr).ps, body_of (ps := ps) rfl (h cdv A outer s H E w.plain hr) e ok r q⟩
structure FG (P : Program) (wd : World) (K : Frag) (mg : Str → Option Value) (base : Heap) (k : Nat) (x : Str) (F : List D → M D) : Prop where
  fd : FD P wd K mg base k (He.ga K x) F
  kp : PySem.W.keepIn K (.ref (He.ga K x)) = true
  gl : mg x = some (.ref (He.ga K x))
theorem FG.up {j k : Nat} {x : Str} {F : List D → M D} (h : FG P wd K mg base j x F) (l : j ≤ k := by decide) : FG P wd K mg base k x F := ⟨h.fd.up l, h.kp, h.gl⟩
end
section
variable {K : Frag} {w0 w w1 : Wd} {W : WX} {X : Cx} {ρ : Rh} {σ : L2.St} {pins : List (Addr × Obj)} {s : Shared} {pos p : Pos} {k : Nat} {F : List D → M D}
theorem got_after {Qd : D → Sv → Prop} {u : Value} {s' : Shared} (I : Inv X pins σ w.H s) (at_ : At K w0 w ρ σ) (h : CE X.stack X.prog X.w w.H s (fun v H' => ∃ d w', w'.H = H' ∧ Step K w w' ∧ Rep K w'.toGd d v ∧ Qd d w'.S) u s') : GotE K w0 X pins σ ρ w Qd u s' := by
  obtain ⟨v, H', I', rv, d, w', rfl, st, rd, q⟩ := I.after h
  exact ⟨v, d, w', I', at_.nx st, rv, rd, q⟩
theorem spD_of {ds : List D} {vs : List V} {Qd : D → Sv → Prop} {Ed : Xn → Sv → Prop} (hm : Mono (F ds)) (at_ : At K w0 w ρ σ) (r : RepL K w.toGd ds vs) (q : F ds w.S Qd Ed) (hE : ExcE K w0 W w ρ σ Ed) :
    spD K F vs w.H (fun v H' => ∃ d w', w'.H = H' ∧ Step K w w' ∧ Rep K w'.toGd d v ∧ Qd d w'.S) (fun c d H' => W c d σ H') :=
  ⟨w, ds, rfl, at_.st.ok, r, hm _ _ _ _ _ (fun d S' q w' v e st rd => ⟨d, w', rfl, st, rd, by rw [e]; exact q⟩) (fun x S' q w' c d e st rx => hE x w' c d (by rw [e]; exact q) (at_.nx st) rx) q⟩
theorem run_fd {A : Around} {f : Addr} {us : List Value} {vs : List V} {ds : List D} {Qd : D → Sv → Prop} {Ed : Xn → Sv → Prop} (h : FD X.prog X.w X.K X.mg X.base k f F) (hr : Room k A) (e0 : Env0 X.prog X.w X.K X.mg X.base A X.stack s w.H) (tk : Takes X W) (I : Inv X pins σ w.H s) (at_ : At X.K w0 w ρ σ) (rv : Vals vs us) (r : RepL X.K w.toGd ds vs)
    (q : F ds w.S Qd Ed) (hE : ExcE X.K w0 W w ρ σ Ed) : codeAny (model X.prog X.w) A (.call (.ref f) ⟨us, []⟩) (fun r s' => match r with | .ok (.ret v) => GotE X.K w0 X pins σ ρ w Qd v s' | .ok _ => False | .error e => X.xe e s') s := by
  refine codeAny_mono (h.ok A X.stack s w.H us vs _ _ hr e0 rv (spD_of (h.mono ds) at_ r q hE)) fun r s' hq => ?_
  cases r with
  | error e => exact tk _ _ (XE.of_call I (fun _ _ _ h => h) hq)
  | ok fl =>
    cases fl with
    | ret u => exact got_after I at_ hq
    | next => exact False.elim hq
    | brk => exact False.elim hq
    | cont => exact False.elim hq
theorem run_fd0 {f : Addr} {us : List Value} {vs : List V} {ds : List D} {Qd : D → Sv → Prop} {Ed : Xn → Sv → Prop} (h : FD X.prog X.w X.K X.mg X.base k f F) (hr : Room k X.A) (tk : Takes X W) (I : Inv X pins σ w.H s) (at_ : At X.K w0 w ρ σ) (rv : Vals vs us) (r : RepL X.K w.toGd ds vs)
    (q : F ds w.S Qd Ed) (hE : ExcE X.K w0 W w ρ σ Ed) : wpAny (model X.prog X.w) X.A (call (.ref f) us) (GotE X.K w0 X pins σ ρ w Qd) X.xe s :=
  wpAny_call (run_fd h hr I.env0 tk I at_ rv r q hE)
theorem de_call {x : Str} {e : Expr} {es : List Expr} {m : Rh → M (List D)} (h : FG X.prog X.w K X.mg X.base k x F) (hr : Room k X.A) (tk : Takes X W) (ha : DA K w0 W X (e :: es) m) (hK : X.K = K := by rfl) (hg : Gl X x := by rfl) (hdb : (x == ("__debug__" : Str)) = false := by decide)
    (he : starEach (e :: es) X.env = (false, eval e X.env) :: starEach es X.env := by rfl) (hpl : (backTo pos (starEach es X.env)).any (·.1) = false := by rfl) : DE K w0 W X (.Call (.Name x p) (e :: es) [] pos) (fun ρ => bind (m ρ) F) := by
  subst hK
  refine .mk' (fun ρ => mono_bind (ha.mono ρ) fun _ => h.fd.mono _) fun pins s σ ρ w Qd Ed I at_ r hE => ?_
  refine wpAny_Call_Name_kw (ld_glob I hg h.gl ?_ hdb)
  refine PySem.W.callWith_K (h₀ := X.base) I.ok.mod.kin h.kp (thn (ha.raw pos I at_ r hE) ?_) he hpl
  rintro us s1 ⟨vs, ds, w1, I1, n1, rv, rds, q⟩
  exact ⟨I1.kIn, thn (run_fd0 h.fd hr tk I1 n1.at_ rv rds q (hE.nw n1)) fun u s2 g => g.nw n1⟩
inductive Atr where
  | fld | prop (F : List D → M D) | con (d : D)
def noex {α : Type} (m : M α) : M α := fun S Q _ => m S Q (fun _ _ => False)
theorem mono_noex {α : Type} {m : M α} (h : Mono m) : Mono (noex m) := fun S Q Q' E E' q _ x => h S Q Q' _ _ q (fun _ _ z => z) x
def fldOf (f : Str) (ns : List Str) (ds : List D) : M D := match (ns.zip ds).lookup f with
  | some d => ret d
  | none => fail
def atrD (tbl : List (Str × Atr)) (f : Str) (x : D) : M D := match x with
  | .ins c ns ds => (match tbl.lookup c with
    | some .fld => fldOf f ns ds
    | some (.prop F) => noex (F [x])
    | some (.con d) => (match ns.contains f with
      | false => ret d
      | true => fail)
    | none => fail)
  | .cls c => (match tbl.lookup c with
    | some (.con d) => ret d
    | _ => fail)
  | _ => fail
inductive AtrOk (P : Program) (wd : World) (K : Frag) (mg : Str → Option Value) (base : Heap) (k : Nat) (f c : Str) : Atr → Prop
  | fld (h : Cls K (He.ga K c)) (n : NoAttr K (He.ga K c) f) : AtrOk P wd K mg base k f c .fld
  | prop {F : List D → M D} {p g : Addr} (h : Cls K (He.ga K c)) (pr : PropOf K (He.ga K c) f p g) (h2 : FD P wd K mg base k g F) : AtrOk P wd K mg base k f c (.prop F)
  | con {d : D} {v : V} (h : Cls K (He.ga K c)) (n : ∃ u, Con K (He.ga K c) f v u) (r : ∀ G, Rep K G d v) (cr : ClX.CRead K (He.ga K c) (.type "type")) (cv : ∃ u, ClX.CVal K (He.ga K c) (.type "type") f v u) : AtrOk P wd K mg base k f c (.con d)
def TblOk (P : Program) (wd : World) (K : Frag) (mg : Str → Option Value) (base : Heap) (k : Nat) (f : Str) (tbl : List (Str × Atr)) : Prop := ∀ c a, tbl.lookup c = some a → AtrOk P wd K mg base k f c a
theorem tbl_nil {P : Program} {wd : World} {mg : Str → Option Value} {base : Heap} {f : Str} : TblOk P wd K mg base k f [] := fun _ _ h => by cases h
theorem tbl_cons {P : Program} {wd : World} {mg : Str → Option Value} {base : Heap} {f c : Str} {a : Atr} {tbl : List (Str × Atr)} (h : AtrOk P wd K mg base k f c a) (t : TblOk P wd K mg base k f tbl) : TblOk P wd K mg base k f ((c, a) :: tbl) := fun c' a' e => by
  rw [List.lookup_cons] at e
  split at e
  · rename_i q
    cases e
    have q : c' = c := by simpa using q
    subst q
    exact h
  · exact t c' a' e
theorem lookup_rep {G : Gd} : ∀ {ns : List Str} {ds : List D} {vs : List V} {f : Str} {d : D}, RepL K G ds vs → (ns.zip ds).lookup f = some d → ∃ v, (ns.zip vs).lookup f = some v ∧ Rep K G d v
  | [], _, _, _, _, _, e => by simp at e
  | _ :: _, [], _, _, _, _, e => by simp at e
  | n :: ns, d :: ds, _, f, _, h, e => by
    unfold RepL at h
    obtain ⟨v, r, rfl, h1, h2⟩ := h
    rw [List.zip_cons_cons, List.lookup_cons] at e ⊢
    cases q : (f == n) with
    | true =>
      rw [q] at e
      cases e
      exact ⟨v, rfl, h1⟩
    | false =>
      rw [q] at e
      exact lookup_rep (ns := ns) h2 e
theorem lookup_none {ns : List Str} {vs : List V} {f : Str} (h : ns.contains f = false) : (ns.zip vs).lookup f = none := by
  induction ns generalizing vs with
  | nil => simp
  | cons n ns ih =>
    cases vs with
    | nil => simp
    | cons v vs =>
      rw [List.contains_cons, Bool.or_eq_false_iff] at h
      rw [List.zip_cons_cons, List.lookup_cons, h.1]
      exact ih h.2
theorem mono_fldOf {f : Str} {ns : List Str} {ds : List D} : Mono (fldOf f ns ds) := by
  unfold fldOf; split
  · exact mono_ret
  · exact mono_fail
theorem mono_atr {P : Program} {wd : World} {mg : Str → Option Value} {base : Heap} {f : Str} {tbl : List (Str × Atr)} (h : TblOk P wd K mg base k f tbl) (x : D) : Mono (atrD tbl f x) := by
  unfold atrD
  split
  · split
    · exact mono_fldOf
    · rename_i e
      cases h _ _ e with
      | prop _ _ F => exact mono_noex (F.mono _)
    · split
      · exact mono_ret
      · exact mono_fail
    · exact mono_fail
  · split
    · exact mono_ret
    · exact mono_fail
  · exact mono_fail
theorem rep_ins {c : Str} {ns : List Str} {ds : List D} {v : V} (ok : Wok K w) (h : Rep K w.toGd (.ins c ns ds) v) : ∃ a dx vs, v = .ref a ∧ w.H a = some (.ins (He.ga K c) dx (ns.zip vs)) ∧ ns.length = vs.length ∧ RepL K w.toGd ds vs := by
  unfold Rep at h
  obtain ⟨a, dx, vs, h1, h2, h3, h4⟩ := h
  exact ⟨a, dx, vs, h1, ok.le _ _ h2, h3, h4⟩
theorem de_atr {e : Expr} {f : Str} {m : Rh → M D} {tbl : List (Str × Atr)} (h : TblOk X.prog X.w K X.mg X.base k f tbl) (hr : Room (k + 1) X.A) (he : DE K w0 W X e m) (hK : X.K = K := by rfl) (hab : attributeBase e f X.env (eval e X.env) = eval e X.env := by rfl) :
    DE K w0 W X (.Attribute e f pos) (fun ρ => bind (m ρ) (atrD tbl f)) := by
  subst hK
  refine .mk' (fun ρ => mono_bind (he.mono ρ) fun _ => mono_atr h _) fun pins s σ ρ w Qd Ed I at_ r hE => attr_of hab (thn (he.raw I at_ r hE) ?_)
  rintro u s1 ⟨z, d, w1, I1, n1, rz, rd, q⟩
  suffices hh : wpAny (model X.prog X.w) X.A (getAttr u f true) (GotE X.K w0 X pins σ ρ w1 Qd) X.xe s1 from thn hh fun _ _ g => g.nw n1
  cases d <;> first | exact q.elim | skip
  case ins c ns ds =>
    obtain ⟨a, dx, vs, rfl, ea, hl, rl⟩ := rep_ins n1.at_.st.ok rd
    obtain rfl : u = Value.ref a := rz
    have q : (match tbl.lookup c with | some .fld => fldOf f ns ds | some (.prop F) => noex (F [.ins c ns ds]) | some (.con d) => (match ns.contains f with | false => ret d | true => fail) | none => fail) w1.S Qd Ed := q
    cases e1 : tbl.lookup c with
    | none => rw [e1] at q; exact q.elim
    | some a' =>
      rw [e1] at q
      cases h c a' e1 with
      | fld hc hn =>
        have q : fldOf f ns ds w1.S Qd Ed := q
        unfold fldOf at q
        cases e2 : (ns.zip ds).lookup f with
        | none => rw [e2] at q; exact q.elim
        | some d =>
          rw [e2] at q
          obtain ⟨v, e3, r3⟩ := lookup_rep rl e2
          exact getattr_ok I1 ea hc hn e3 fun u' s' I' ru => ⟨v, d, w1, I', n1.at_.here, ru, r3, q⟩
      | @con d v hc hn hrp _ _ =>
        obtain ⟨u', cn⟩ := hn
        cases e2 : ns.contains f with
        | true => rw [e2] at q; exact q.elim
        | false =>
          rw [e2] at q
          exact getcon_ok I1 ea hc cn (lookup_none e2) fun s' I' => ⟨v, d, w1, I', n1.at_.here, cn.rel, hrp _, q⟩
      | prop hc hp FF =>
        rename_i F p g
        have q : F [.ins c ns ds] w1.S Qd (fun _ _ => False) := q
        obtain ⟨mA, O, _⟩ := ins_get I1.hok ea
        obtain ⟨od, J, _⟩ := O.look
        obtain ⟨rest, hrec⟩ := hp.rec_
        have hcs : (clsIn X.K (He.ga X.K c)).isSome = true := by
          obtain ⟨cd, hc', _⟩ := any_some hc.hd
          rw [hc'] <;> rfl
        have I2 := I1.tok (s1.toks + 1)
        refine get_bind I1.kIn J (plainGet_of (hc.get f)).1 (findObj_data hcs hp.at_ hp.get hp.tak) (plainGet_of (hc.get f)).2 (wpAny_call (prop_get (s := { s1 with toks := s1.toks + 1 }) I1.kIn hrec ?_))
        have sp := spD_of (W := fun _ _ _ _ => False) (vs := [.ref a]) (FF.mono _) n1.at_ (RepL.cons rd RepL.nil) q (fun _ _ _ _ z => z.elim)
        refine codeAny_mono (FF.ok X.A.in1 X.stack { s1 with toks := s1.toks + 1 } w1.H [.ref a] [.ref a] _ _ hr.in1 I2.env0.in1 (.cons rfl .nil) sp) fun r s' hq => ?_
        match r, hq with
        | .error er, hq =>
          obtain ⟨_, _, _, _, _, _, _, _, _, _, _, _, z⟩ := (show L2.CX X.prog X.w X.stack w1.H _ _ er s' from hq)
          exact z.elim
        | .ok (.ret u), hq =>
          obtain ⟨v, d, w3, I3, n3, rv, rd3, q3⟩ := got_after I2 n1.at_ hq
          show wpAny _ _ (handedOut u) _ _ _
          rw [handedOut_of (handed_of rv)]
          exact wpAny_pure ⟨v, d, w3, I3, n3, rv, rd3, q3⟩
  case cls c =>
    unfold Rep at rd
    subst rd
    obtain rfl : u = Value.ref (He.ga X.K c) := rz
    have q : (match tbl.lookup c with | some (.con d) => ret d | _ => fail) w1.S Qd Ed := q
    cases e1 : tbl.lookup c with
    | none => rw [e1] at q; exact q.elim
    | some a' =>
      rw [e1] at q
      cases h c a' e1 with
      | fld _ _ => exact q.elim
      | prop _ _ _ => exact q.elim
      | @con d v hc hn hrp cr cv =>
        obtain ⟨u', cv⟩ := cv
        exact ClX.getcval_ok I1 cr cv fun s2 I2 => ⟨v, d, w1, I2, n1.at_.here, cv.rel, hrp _, q⟩
end
end Dn

namespace Dn
open PySem PySem.W PySem.Spec PyProof.Rows L2 TL Bits An
section
variable {K : Frag} {w0 w w1 : Wd} {W : WX} {X : Cx} {ρ : Rh} {σ : L2.St} {pins : List (Addr × Obj)} {s : Shared} {pos p : Pos} {k : Nat} {F : List D → M D}
theorem Step.put (ok : Wok K w) {p : Addr} {o : HO} (h : w.H p = none) : Step K w (w.put p o) where
  ok := ok.put (ok.fnone h) (fun c => ok.ch p c h)
  f := fun _ _ e => e
  a := List.prefix_refl _
  h := fun a u e _ => by
    show upd w.H p o a = some u
    rw [upd_ne (fun z => by rw [z, h] at e; cases e)]; exact e
  c := fun _ c => c
  cn := fun _ c => .inl c
  fn := fun _ _ e => .inl e
def Wd.frz (w : Wd) (p : Addr) (o : HO) : Wd := { w with F := upd w.F p o }
theorem Step.frz {p : Addr} {o : HO} (x : Step K w w1) (h0 : w.H p = none) (h : w1.H p = some o) (hf : w1.F p = none) (hc : ¬ w1.C p) : Step K w (w1.frz p o) where
  ok := ⟨fun a u e => by
      have e : upd w1.F p o a = some u := e
      by_cases z : a = p
      · subst z; rw [upd_same] at e; cases e; exact h
      · rw [upd_ne z] at e; exact x.ok.le a u e,
    fun a c => by
      show upd w1.F p o a = none
      rw [upd_ne (fun (z : a = p) => hc (by rw [← z]; exact c))]; exact x.ok.fc a c, x.ok.ch, x.ok.len, fun i q c e1 e2 => by
      obtain ⟨a', b, d⟩ := x.ok.cell i q c e1 e2
      refine ⟨cellAt_keep (fun _ e => e) (fun _ e => e) a' (fun b' _ _ e => ?_), b, d⟩
      show upd w1.F p o b' = _
      rw [upd_ne (fun z => by rw [z, hf] at e; cases e)]; exact e, x.ok.inj, x.ok.ne, x.ok.nt⟩
  f := fun a u e => by
    show upd w1.F p o a = some u
    have := x.f a u e
    rw [upd_ne (fun z => by rw [z, hf] at this; cases this)]; exact this
  a := x.a
  h := x.h
  c := x.c
  cn := x.cn
  fn := fun a u e => by
    have e : upd w1.F p o a = some u := e
    by_cases z : a = p
    · right; left; rw [z]; exact h0
    · rw [upd_ne z] at e; exact x.fn a u e
theorem gle_frz {p : Addr} {o : HO} (hf : w.F p = none) : Gle w.toGd (w.frz p o).toGd := ⟨fun a u e => by
    show upd w.F p o a = some u
    rw [upd_ne (fun z => by rw [z, hf] at e; cases e)]; exact e, List.prefix_refl _⟩
def endsI (c : Str) (Q : List Str × List D → Sv → Prop) (E : Xn → Sv → Prop) : EndsD where
  nx := fun ρ' S' => match ρ' with
    | .oi c' ns ds :: _ => c' = c ∧ Q (ns, ds) S'
    | _ => False
  rt := fun _ _ => False
  bk := fun _ _ => False
  ct := fun _ _ => False
  ex := fun x _ S' => E x S'
def mkI (c : Str) (n N : Nat) (code : Sm) : List D → M (List Str × List D) := fun ds S Q E => match Nat.beq ds.length n with
  | true => code (.oi c [] [] :: startD N ds) S (endsI c Q E)
  | false => False
theorem mono_mkI {c : Str} {n N : Nat} {code : Sm} (h : MonoS code) (ds : List D) : Mono (mkI c n N code ds) := fun S Q Q' E E' q e x => by
  unfold mkI at x ⊢
  split at x
  · refine h _ _ (endsI c Q E) (endsI c Q' E') (fun ρ' S' z => ?_) (fun _ _ z => z) (fun _ _ z => z) (fun _ _ z => z) (fun _ _ _ => e _ _) x
    simp only [endsI] at z ⊢
    split at z
    · exact ⟨z.1, q _ _ z.2⟩
    · exact z
  · exact x
def Wd.with (w : Wd) (a dx : Addr) : Wd := { w with me := some (a, dx) }
theorem Step.with {a dx : Addr} (x : Step K (w.with a dx) w1) : Step K w w1 := ⟨x.ok, x.f, x.a, x.h, x.c, x.cn, x.fn⟩
theorem Step.to {a dx : Addr} (x : Step K w w1) : Step K (w.with a dx) w1 := ⟨x.ok, x.f, x.a, x.h, x.c, x.cn, x.fn⟩
def spI (K : Frag) (c : Str) (Fi : List D → M (List Str × List D)) : Sp := fun vs H Q E => ∃ w a dx vr ds, vs = .ref a :: vr ∧ H = upd (upd w.H dx (.own a)) a (.ins (He.ga K c) dx []) ∧ w.H a = none ∧ w.H dx = none ∧ dx ≠ a ∧ Wok K w ∧ RepL K w.toGd ds vr ∧
  Fi ds w.S (fun p S' => ∀ w' us, w'.S = S' → Step K w w' → w'.H a = some (.ins (He.ga K c) dx (p.1.zip us)) → w'.F a = none → ¬ w'.C a → p.1.length = us.length → RepL K w'.toGd p.2 us → Q .non w'.H)
    (fun x S' => ∀ w' c d, w'.S = S' → Step K w w' → RepX K w'.toGd x c d → E c d w'.H)
theorem init_world {a dx : Addr} (ok : Wok K w) (ha : w.H a = none) (hd : w.H dx = none) (ne : dx ≠ a) (c : Str) : Step K w ((w.put dx (.own a)).put a (.ins (He.ga K c) dx [])) :=
  (Step.put ok hd).trans (Step.put (Step.put ok hd).ok (by show upd w.H dx _ a = none; rw [upd_ne (Ne.symm ne)]; exact ha))
theorem slot_with {a dx : Addr} {t : Sl} {o : Option V} (h : SlotOk K w w1 t o) (hn : t.own = false := by first | rfl | assumption) : SlotOk K (w.with a dx) w1 t o := by
  cases t with
  | un => trivial
  | fn => exact h
  | ex _ => trivial
  | sh d => exact h
  | ol _ => cases hn
  | oi _ _ _ => cases hn
theorem noown_start {N : Nat} {ds : List D} {i : Nat} {t : Sl} (ea : (startD N ds)[i]? = some t) : t.own = false := by
  unfold startD at ea
  by_cases h : i < ds.length
  · rw [List.getElem?_append_left (by simpa using h), List.getElem?_map] at ea
    obtain ⟨d, hd⟩ : ∃ d, ds[i]? = some d := ⟨ds[i], by simp [h]⟩
    rw [hd] at ea
    cases ea
    rfl
  · rw [List.getElem?_append_right (by simpa using h)] at ea
    have := List.getElem?_eq_some_iff.mp ea
    have e2 : t = Sl.un := by rw [← this.2]; simp
    subst e2
    rfl
theorem init_good {a dx : Addr} {c : Str} {N : Nat} {ds : List D} {vs : List V} (ok : Wok K w) (ha : w.H a = none) (hd : w.H dx = none) (ne : dx ≠ a) (r : RepL K w.toGd ds vs) :
    Good K (w.with a dx) ((w.put dx (.own a)).put a (.ins (He.ga K c) dx [])) (.oi c [] [] :: startD N ds) (some (.ref a) :: (vs.map some ++ List.replicate (N - vs.length) none)) := by
  have g := (good_start (N := N) r).step (init_world ok ha hd ne c)
  refine ⟨by rw [List.length_cons, List.length_cons, g.len], fun i t e => ?_, fun i j t u x hij ei ej oi oj => ?_⟩
  · cases i with
    | zero =>
      cases e
      exact ⟨a, dx, [], rfl, rfl, upd_same, ok.fnone ha, fun z => ok.ch a z ha, ha, rfl, RepL.nil⟩
    | succ i => exact slot_with (g.at_ i t e) (noown_start e)
  · have noown : ∀ {i : Nat} {t : Sl}, (startD N ds)[i]? = some t → t.own = true → False := fun ea sa => by rw [noown_start ea] at sa; cases sa
    cases i with
    | succ i => exact (noown (i := i) ei oi).elim
    | zero =>
      cases j with
      | zero => exact absurd rfl hij
      | succ j => exact (noown (i := j) ej oj).elim
end
section
variable {P : Program} {wd : World} {K : Frag} {mg : Str → Option Value} {base : Heap}
theorem bodyI_of {N ps : List Str} {c : Str} {code : Sm} {X : Cx} {body : List Stmt} {vs : List V} {H : Hp} {Q : VK} {E : XK}
    (h : ∀ w, DSs K w (WE E) X body code) (q : spI K c (mkI c (ps.length - 1) (N.length - 1) code) vs H Q E) : ∃ w, tS K w (WE E) code { nx := fun _ H' => Q .non H', rt := Q } (L2.start N vs) H := by
  obtain ⟨w, a, dx, vr, ds, rfl, rfl, ha, hd, ne, ok, r, q⟩ := q
  unfold mkI at q
  split at q
  case h_2 => exact q.elim
  refine ⟨w.with a dx, (w.put dx (.own a)).put a (.ins (He.ga K c) dx []), .oi c [] [] :: startD (N.length - 1) ds, rfl, ⟨(init_world ok ha hd ne c).to, ?_⟩, ?_⟩
  · have e : L2.start N (.ref a :: vr) = some (.ref a) :: (vr.map some ++ List.replicate (N.length - 1 - vr.length) none) := by
      unfold L2.start
      rw [List.map_cons, List.length_cons, List.cons_append]
      have : N.length - (vr.length + 1) = N.length - 1 - vr.length := by omega
      rw [this]
    rw [e]
    exact init_good ok ha hd ne r
  · refine (h (w.with a dx)).mono _ _ (endsI c _ _) _ ?_ (fun _ _ z => z.elim) (fun _ _ z => z.elim) (fun _ _ z => z.elim) ?_ q
    · intro ρ' S' z w' σ' e n
      simp only [endsI] at z
      split at z
      · rename_i c' ns ds' rr
        obtain ⟨rfl, z⟩ := z
        obtain ⟨a', dx', vs', hme, h1, h2, h3, h4, h5, h6, h7⟩ := n.at_.good.at_ 0 _ rfl
        cases hme
        exact z w' vs' e n.at_.st.with h2 h3 h4 h6 h7
      · exact z.elim
    · intro x ρ' S' z w' σ' c' d e n rx
      exact z w' c' d e n.at_.st.with rx
structure FI (P : Program) (wd : World) (K : Frag) (mg : Str → Option Value) (base : Heap) (k : Nat) (c : Str) (f : Addr) (Fi : List D → M (List Str × List D)) : Prop where
  ok : Wc P wd K mg base k f (spI K c Fi)
  mono : ∀ ds, Mono (Fi ds)
theorem mkI_len {c : Str} {n N : Nat} {code : Sm} {ds : List D} {S : Sv} {Q : List Str × List D → Sv → Prop} {E : Xn → Sv → Prop} (h : mkI c n N code ds S Q E) : ds.length = n := by
  unfold mkI at h
  split at h
  · rename_i e
    exact Nat.eq_of_beq_eq_true e
  · exact h.elim
theorem fi_of {c x q : Str} {st : Stmt} {f : Addr} {N ps : List Str} {k : Nat} {code : Sm} (F : FnS K x q st f) (S : FnScope N ps (defScope st))
    (hb : ∀ (kV doc pm : Value) (an : Option Addr) (cdv ct : Value) (us : List Value), us.length = ps.length → bindArgs (PySem.W.fnOf x q (defArgs st) (defBody st) (defScope st) .none kV doc pm an cdv ct) ⟨us, []⟩ = pure (ps.zip us)) (hp : 1 ≤ ps.length) (hk : k ≤ 300)
    (h : ∀ (cdv : Value) (A : Around) (outer : List Env) (s : Shared) (H : Hp) (E : XK) (w0 : Wd), Room k (A.deeper (envOfC q (defScope st) s.heap.objs.size f cdv)) → DSs K w0 (WE E) (cxOf (L2.CX P wd) P wd K mg base N q (defScope st) f cdv A outer s H E) (defBody st) code) :
    FI P wd K mg base (k + 1) c f (mkI c (ps.length - 1) (N.length - 1) code) := by
  have hm : MonoS code := (h .none {} [] {} (fun _ => none) (fun _ _ _ => False) wd0 (room0 hk _)).mono
  refine ⟨fnr F S (fun vs H Q E hh => ?_) hb (fun cdv A outer s H vs Q E hr hh => ?_), mono_mkI hm⟩
  · obtain ⟨w, a, dx, vr, ds, rfl, _, _, _, _, _, r, q⟩ := hh
    have := mkI_len q
    rw [List.length_cons, r.length]
    omega
  · obtain ⟨w, t⟩ := bodyI_of (ps := ps) (fun w => h cdv A outer s H E w hr) hh
    exact ⟨_, (h cdv A outer s H E w hr).ps, t⟩
structure FIK (P : Program) (wd : World) (K : Frag) (mg : Str → Option Value) (base : Heap) (k : Nat) (c : Str) (f : Addr) (x q : Str) (st : Stmt) (dvs : List V) (kws : List (Str × V)) (ps : List Str) (Fi : List D → M (List Str × List D)) : Prop where
  ok : WcD P wd K mg base k f x q st dvs kws ps (spI K c Fi)
  mono : ∀ ds, Mono (Fi ds)
structure FDK (P : Program) (wd : World) (K : Frag) (mg : Str → Option Value) (base : Heap) (k : Nat) (f : Addr) (x q : Str) (st : Stmt) (dvs : List V) (kws : List (Str × V)) (ps : List Str) (F : List D → M D) : Prop where
  ok : WcD P wd K mg base k f x q st dvs kws ps (spD K F)
  mono : ∀ ds, Mono (F ds)
end
def clsF (c : Str) (Fi : List D → M (List Str × List D)) : List D → M D := fun ds => bind (Fi ds) fun p => ret (.ins c p.1 p.2)
section
variable {K : Frag} {w0 w w1 : Wd} {W : WX} {X : Cx} {ρ : Rh} {σ : L2.St} {pins : List (Addr × Obj)} {s : Shared} {pos p : Pos} {k : Nat} {Fi : List D → M (List Str × List D)}
theorem mono_clsF {c : Str} (h : ∀ ds, Mono (Fi ds)) (ds : List D) : Mono (clsF c Fi ds) := mono_bind (h ds) fun _ => mono_ret
theorem spI_of {c : Str} {ds : List D} {vs : List V} {Qd : D → Sv → Prop} {Ed : Xn → Sv → Prop} (hm : Mono (Fi ds)) (at_ : At K w0 w ρ σ) (r : RepL K w.toGd ds vs) (q : clsF c Fi ds w.S Qd Ed) (hE : ExcE K w0 W w ρ σ Ed) (x dx : Addr) (hx : w.H x = none) (hd : w.H dx = none) (ne : dx ≠ x) :
    spI K c Fi (.ref x :: vs) (upd (upd w.H dx (.own x)) x (.ins (He.ga K c) dx [])) (fun v H2 => v = .non ∧ ∃ d w', w'.H = H2 ∧ Step K w w' ∧ Rep K w'.toGd d (.ref x) ∧ Qd d w'.S) (fun c d H' => W c d σ H') := by
  refine ⟨w, x, dx, vs, ds, rfl, rfl, hx, hd, ne, at_.st.ok, r, ?_⟩
  refine hm _ _ _ _ _ ?_ (fun x S' q w' c d e st rx => hE x w' c d (by rw [e]; exact q) (at_.nx st) rx) q
  intro p S' q w' us e st h1 h2 h3 h4 h5
  refine ⟨rfl, .ins c p.1 p.2, w'.frz x (.ins (He.ga K c) dx (p.1.zip us)), rfl, st.frz hx h1 h2 h3, ?_, ?_⟩
  · unfold Rep
    exact ⟨x, dx, us, rfl, upd_same, h4, RepL.le (gle_frz h2) _ h5⟩
  · show Qd _ w'.S
    rw [e]; exact q
structure CG (P : Program) (wd : World) (K : Frag) (mg : Str → Option Value) (base : Heap) (k : Nat) (x : Str) (Fi : List D → M (List Str × List D)) : Prop where
  mkr : Mk K (He.ga K x) (He.ma K (He.ga K x) "__init__")
  fi : FI P wd K mg base k x (He.ma K (He.ga K x) "__init__") Fi
  gl : mg x = some (.ref (He.ga K x))
theorem de_cl {x : Str} {e : Expr} {es : List Expr} {m : Rh → M (List D)} (h : CG X.prog X.w K X.mg X.base k x Fi) (hr : Room (k + 1) X.A) (tk : Takes X W) (ha : DA K w0 W X (e :: es) m) (hK : X.K = K := by rfl) (hg : Gl X x := by rfl) (hdb : (x == ("__debug__" : Str)) = false := by decide)
    (he : starEach (e :: es) X.env = (false, eval e X.env) :: starEach es X.env := by rfl) (hpl : (backTo pos (starEach es X.env)).any (·.1) = false := by rfl) : DE K w0 W X (.Call (.Name x p) (e :: es) [] pos) (fun ρ => bind (m ρ) (clsF x Fi)) := by
  subst hK
  refine .mk' (fun ρ => mono_bind (ha.mono ρ) fun _ => mono_clsF h.fi.mono _) fun pins s σ ρ w Qd Ed I at_ r hE => ?_
  refine wpAny_Call_Name_kw (ld_glob I hg h.gl ?_ hdb)
  refine PySem.W.callWith_K (h₀ := X.base) I.ok.mod.kin h.mkr.kp (thn (ha.raw pos I at_ r hE) ?_) he hpl
  rintro us s1 ⟨vs, ds, w1, I1, n1, rv, rds, q⟩
  refine ⟨I1.kIn, ?_⟩
  suffices hh : wpAny (model X.prog X.w) X.A (call (.ref (He.ga X.K x)) us) (GotE X.K w0 X pins σ ρ w1 Qd) X.xe s1 from thn hh fun _ _ g => g.nw n1
  have hq := spI_of (h.fi.mono ds) n1.at_ rds q (hE.nw n1) (s1.heap.objs.size + 1) s1.heap.objs.size (I1.hok.fresh (Nat.le_succ _)) (I1.hok.fresh (Nat.le_refl _)) (Nat.ne_of_lt (Nat.lt_succ_self _))
  have I2 := Inv.made (C := He.ga X.K x) I1
  have r2 : Vals (V.ref (s1.heap.objs.size + 1) :: vs) (Value.ref (s1.heap.objs.size + 1) :: us) := .cons rfl rv
  refine wpAny_call (make_map (f := He.ma X.K (He.ga X.K x) "__init__") I1.kIn h.mkr.makes h.mkr.init (beq_iff_eq.mp h.mkr.fn) (codeAny_mono (h.fi.ok _ X.stack _ _ (Value.ref (s1.heap.objs.size + 1) :: us) _ _ _ (hr.make _ us []) (I2.env0.make _ us []) r2 hq) fun r s' hq' => ?_))
  cases r with
  | error e => exact tk _ _ (XE.of_call I2 (fun _ _ _ h => h) hq')
  | ok fl =>
    cases fl with
    | ret u =>
      obtain ⟨v, H', I3, rv3, ev, d, w', rfl, st, rd, q3⟩ := I2.after hq'
      subst ev
      exact ⟨rv3, ⟨V.ref (s1.heap.objs.size + 1), d, w', I3, n1.at_.nx st, rfl, rd, q3⟩⟩
    | next => exact False.elim hq'
    | brk => exact False.elim hq'
    | cont => exact False.elim hq'
end
end Dn

namespace Dn
open PySem PySem.W PySem.Spec PyProof.Rows L2 TL Bits An
mutual
def py : D → PyData
  | .non => .none
  | .bl b => .bool b
  | .int i => .int i
  | .str z => .str z
  | .lst xs => .list (pyL xs)
  | .tup xs => .tuple (pyL xs)
  | .byt _ => .none
  | .ins _ _ _ => .none
  | .dct _ _ => .none
  | .src => .none
  | .src1 => .none
  | .scr _ => .none
  | .cell _ => .none
  | .cls _ => .none
  | .ty _ => .none
  | .lam _ _ _ => .none
  | .xn _ _ _ => .none
  | .fl _ => .none
def pyL : List D → List PyData
  | [] => []
  | d :: ds => py d :: pyL ds
end
mutual
def isPy : D → Bool
  | .non => true
  | .bl _ => true
  | .int _ => true
  | .str _ => true
  | .lst xs => isPyL xs
  | .tup xs => isPyL xs
  | .byt _ => false
  | .ins _ _ _ => false
  | .dct _ _ => false
  | .src => false
  | .src1 => false
  | .scr _ => false
  | .cell _ => false
  | .cls _ => false
  | .ty _ => false
  | .lam _ _ _ => false
  | .xn _ _ _ => false
  | .fl _ => false
def isPyL : List D → Bool
  | [] => true
  | d :: ds => isPy d && isPyL ds
end
section
variable {K : Frag} {G : Gd} {H : Hp}
mutual
theorem dp_of (hle : ∀ a o, G.F a = some o → H a = some o) : ∀ (d : D) {v : V}, isPy d = true → Rep K G d v → Dp K H v (py d)
  | .non, _, _, r => by unfold Rep at r; subst r; unfold py; exact .non
  | .bl _, _, _, r => by unfold Rep at r; subst r; unfold py; exact .bl _
  | .int _, _, _, r => by unfold Rep at r; subst r; unfold py; exact .int _
  | .str _, _, _, r => by unfold Rep at r; subst r; unfold py; exact .str _
  | .lst ds, _, h, r => by
    unfold Rep at r
    unfold isPy at h
    obtain ⟨a, vs, rfl, h1, h2⟩ := r
    unfold py
    exact .lst (.inl (rd_le hle h1)) (dpAll_of hle ds h h2)
  | .tup ds, _, h, r => by
    unfold Rep at r
    unfold isPy at h
    obtain ⟨a, vs, rfl, h1, h2⟩ := r
    unfold py
    exact .tup (sqT_le hle h1) (dpAll_of hle ds h h2)
  | .byt _, _, h, _ => by unfold isPy at h; cases h
  | .ins _ _ _, _, h, _ => by unfold isPy at h; cases h
  | .dct _ _, _, h, _ => by unfold isPy at h; cases h
  | .src, _, h, _ => by unfold isPy at h; cases h
  | .src1, _, h, _ => by unfold isPy at h; cases h
  | .scr _, _, h, _ => by unfold isPy at h; cases h
  | .cell _, _, h, _ => by unfold isPy at h; cases h
  | .cls _, _, h, _ => by unfold isPy at h; cases h
  | .ty _, _, h, _ => by unfold isPy at h; cases h
  | .lam _ _ _, _, h, _ => by unfold isPy at h; cases h
  | .xn _ _ _, _, h, _ => by unfold isPy at h; cases h
  | .fl _, _, h, _ => by unfold isPy at h; cases h
theorem dpAll_of (hle : ∀ a o, G.F a = some o → H a = some o) : ∀ (ds : List D) {vs : List V}, isPyL ds = true → RepL K G ds vs → DpAll K H vs (pyL ds)
  | [], _, _, r => by unfold RepL at r; subst r; unfold pyL; exact .nil
  | d :: ds, _, h, r => by
    unfold RepL at r
    unfold isPyL at h
    rw [Bool.and_eq_true] at h
    obtain ⟨v, vr, rfl, h1, h2⟩ := r
    unfold pyL
    exact .cons (dp_of hle d h.1 h1) (dpAll_of hle ds h.2 h2)
end
end
def pyOk (d : D) : Prop := isPy d = true ∧ SeqAt.shaped (py d) = true
def eqB (neg : Bool) (a b : D) : M D := match a, b with
  | .int i, .int j => ret (.bl (xor neg (decide (i = j))))
  | .str i, .str j => ret (.bl (xor neg (decide (i = j))))
  | .bl i, .bl j => ret (.bl (xor neg (decide (i = j))))
  | .byt i, .byt j => ret (.bl (xor neg (decide (i = j))))
  | .non, .non => ret (.bl (xor neg true))
  | .non, .int _ => ret (.bl neg)
  | .int _, .non => ret (.bl neg)
  | .non, .str _ => ret (.bl neg)
  | .str _, .non => ret (.bl neg)
  | .non, .bl _ => ret (.bl neg)
  | .bl _, .non => ret (.bl neg)
  | .int _, .str _ => ret (.bl neg)
  | .str _, .int _ => ret (.bl neg)
  | .bl _, .str _ => ret (.bl neg)
  | .str _, .bl _ => ret (.bl neg)
  | a, b => need (pyOk a ∧ pyOk b) (ret (.bl (xor neg (PyData.eqv (py a) (py b)))))
section
variable {K : Frag} {w0 w w1 : Wd} {W : WX} {X : Cx} {ρ : Rh} {σ : L2.St} {pins : List (Addr × Obj)} {s : Shared} {pos p : Pos}
theorem rInt {i : Int} {G : Gd} : Rep K G (.int i) (.int i) := by unfold Rep; rfl
theorem rBl {i : Bool} {G : Gd} : Rep K G (.bl i) (.bl i) := by unfold Rep; rfl
theorem rStr {i : Str} {G : Gd} : Rep K G (.str i) (.str i) := by unfold Rep; rfl
theorem rByt {i : Array UInt8} {G : Gd} : Rep K G (.byt i) (.byt i) := by unfold Rep; rfl
theorem j2_int {g : Value → Value → Sem Value} {i j : Int} {C : Int → Int → Prop} {h : Int → Int → Int} (ho : OpR X g (rI C fun i j => .int (h i j))) : J2 K w0 W X g (.int i) (.int j) (need (C i j) (ret (.int (h i j)))) :=
  .of ho (mono_need mono_ret) fun σ ρ w x y Q at_ ra rb r => by
    unfold Rep at ra rb; subst ra rb
    exact ⟨i, j, rfl, rfl, r.1, Run.fin at_ r.2 rInt⟩
theorem j2_int0 {g : Value → Value → Sem Value} {i j : Int} {h : Int → Int → Int} (ho : OpR X g (rI0 fun i j => .int (h i j))) : J2 K w0 W X g (.int i) (.int j) (ret (.int (h i j))) :=
  .of ho mono_ret fun σ ρ w x y Q at_ ra rb r => by
    unfold Rep at ra rb; subst ra rb
    exact ⟨i, j, rfl, rfl, Run.fin at_ r rInt⟩
theorem j2_intB {g : Value → Value → Sem Value} {i j : Int} {h : Int → Int → Bool} (ho : OpR X g (rI0 fun i j => .bl (h i j))) : J2 K w0 W X g (.int i) (.int j) (ret (.bl (h i j))) :=
  .of ho mono_ret fun σ ρ w x y Q at_ ra rb r => by
    unfold Rep at ra rb; subst ra rb
    exact ⟨i, j, rfl, rfl, Run.fin at_ r rBl⟩
def cMul (i j : Int) : Prop := CMul i j ∨ CMulW i j
theorem op_mulC : OpR X (binaryOp .Mult) (rI cMul fun i j => .int (i * j)) := opI fun _ _ _ _ _ _ _ hc q => mul_int q (hc.elim (fun h => h.ok) (fun h => h.ok))
def subD : D → D → M D
  | .int i, .int j => ret (.int (i - j))
  | _, _ => fail
def fdivD : D → D → M D
  | .int i, .int j => need (CDivW i j) (ret (.int (i / j)))
  | _, _ => fail
def modD : D → D → M D
  | .int i, .int j => need (0 < j) (ret (.int (i % j)))
  | _, _ => fail
def powD : D → D → M D
  | .int i, .int j => need (CPow i j) (ret (.int (i ^ j.toNat)))
  | _, _ => fail
def shlD : D → D → M D
  | .int i, .int j => need (CShl i j) (ret (.int (i * 2 ^ j.toNat)))
  | _, _ => fail
def shrD : D → D → M D
  | .int i, .int j => need (0 ≤ j) (ret (.int (i / 2 ^ j.toNat)))
  | _, _ => fail
def andD : D → D → M D
  | .int i, .int j => ret (.int (Builtin.bitAnd i j))
  | _, _ => fail
def orD : D → D → M D
  | .int i, .int j => ret (.int (Builtin.bitOr i j))
  | _, _ => fail
def xorD : D → D → M D
  | .int i, .int j => ret (.int (Builtin.bitXor i j))
  | _, _ => fail
theorem j_sub : J2A K w0 W X (binaryOp .Sub) subD := fun a b => by
  cases a <;> first | exact J2.no | skip
  cases b <;> first | exact J2.no | exact j2_int0 op_sub
theorem j_fdiv : J2A K w0 W X (binaryOp .FloorDiv) fdivD := fun a b => by
  cases a <;> first | exact J2.no | skip
  cases b <;> first | exact J2.no | exact j2_int op_fdivW
theorem j_mod : J2A K w0 W X (binaryOp .Mod) modD := fun a b => by
  cases a <;> first | exact J2.no | skip
  cases b <;> first | exact J2.no | exact j2_int op_mod
theorem j_pow : J2A K w0 W X (binaryOp .Pow) powD := fun a b => by
  cases a <;> first | exact J2.no | skip
  cases b <;> first | exact J2.no | exact j2_int op_pow
theorem j_shl : J2A K w0 W X (binaryOp .LShift) shlD := fun a b => by
  cases a <;> first | exact J2.no | skip
  cases b <;> first | exact J2.no | exact j2_int op_shlW
theorem j_shr : J2A K w0 W X (binaryOp .RShift) shrD := fun a b => by
  cases a <;> first | exact J2.no | skip
  cases b <;> first | exact J2.no | exact j2_int op_shr
theorem j_and : J2A K w0 W X (binaryOp .BitAnd) andD := fun a b => by
  cases a <;> first | exact J2.no | skip
  cases b <;> first | exact J2.no | exact j2_int0 op_and
def addD : D → D → M D
  | .int i, .int j => ret (.int (i + j))
  | .str i, .str j => need (i.length + j.length ≤ sizeLine) (ret (.str (i ++ j)))
  | .byt i, .byt j => need (i.size + j.size ≤ 16777216) (ret (.byt (i ++ j)))
  | .lst xs, .lst ys => need (xs.length + ys.length ≤ sizeLine) (ret (.lst (xs ++ ys)))
  | .scr xs, .lst ys => need (xs.length + ys.length ≤ sizeLine) (ret (.lst (xs ++ ys)))
  | .tup xs, .tup ys => need (xs.length + ys.length ≤ sizeLine) (ret (.tup (xs ++ ys)))
  | _, _ => fail
theorem rep_lst {xs : List D} {v : V} (ok : Wok K w) (h : Rep K w.toGd (.lst xs) v) : ∃ a vs, v = .ref a ∧ SqL K w.H a vs ∧ RepL K w.toGd xs vs ∧ Rd w.H a (.lst vs) := by
  unfold Rep at h
  obtain ⟨a, vs, h1, h2, h3⟩ := h
  exact ⟨a, vs, h1, .inl (rd_le ok.le h2), h3, rd_le ok.le h2⟩
theorem rep_scr {xs : List D} {v : V} (ok : Wok K w) (h : Rep K w.toGd (.scr xs) v) : ∃ a vs, v = .ref a ∧ SqL K w.H a vs ∧ RepL K w.toGd xs vs := by
  unfold Rep at h
  obtain ⟨a, vs, h1, h2, h3⟩ := h
  exact ⟨a, vs, h1, Same.seq (H := w.F) (H' := w.H) ok.le h2, h3⟩
theorem rep_tup {xs : List D} {v : V} (ok : Wok K w) (h : Rep K w.toGd (.tup xs) v) : ∃ a vs, v = .ref a ∧ SqT K w.H a vs ∧ RepL K w.toGd xs vs := by
  unfold Rep at h
  obtain ⟨a, vs, h1, h2, h3⟩ := h
  exact ⟨a, vs, h1, sqT_le ok.le h2, h3⟩
theorem j_add (hK : X.K = K := by rfl) : J2A K w0 W X (binaryOp .Add) addD := fun a b => by
  subst hK
  cases a <;> first | exact J2.no | skip
  case int i => cases b <;> first | exact J2.no | exact j2_int0 op_add
  case str i =>
    cases b <;> first | exact J2.no | skip
    rename_i j
    refine J2.of (m := need (i.length + j.length ≤ sizeLine) (ret (.str (i ++ j)))) op_add_str (mono_need mono_ret) fun σ ρ w x y Q at_ ra rb r => ?_
    unfold Rep at ra rb; subst ra rb
    exact ⟨i, j, rfl, rfl, r.1, Run.fin at_ r.2 rStr⟩
  case byt i =>
    cases b <;> first | exact J2.no | skip
    rename_i j
    refine J2.of (m := need (i.size + j.size ≤ 16777216) (ret (.byt (i ++ j)))) op_add_byt (mono_need mono_ret) fun σ ρ w x y Q at_ ra rb r => ?_
    unfold Rep at ra rb; subst ra rb
    exact ⟨i, j, rfl, rfl, r.1, Run.fin at_ r.2 rByt⟩
  case lst xs =>
    cases b <;> first | exact J2.no | skip
    rename_i ys
    refine J2.of (m := need (xs.length + ys.length ≤ sizeLine) (ret (.lst (xs ++ ys)))) op_catL (mono_need mono_ret) fun σ ρ w x y Q at_ ra rb r => ?_
    obtain ⟨a, vs, rfl, h1, h2, _⟩ := rep_lst at_.st.ok ra
    obtain ⟨b, us, rfl, h3, h4, _⟩ := rep_lst at_.st.ok rb
    exact ⟨a, b, vs, us, rfl, rfl, h1, h3, by rw [h2.length, h4.length]; exact r.1, fun p hp => Run.new at_ r.2 hp (lst_laid at_.st.ok hp (h2.append h4))⟩
  case scr xs =>
    cases b <;> first | exact J2.no | skip
    rename_i ys
    refine J2.of (m := need (xs.length + ys.length ≤ sizeLine) (ret (.lst (xs ++ ys)))) op_catL (mono_need mono_ret) fun σ ρ w x y Q at_ ra rb r => ?_
    obtain ⟨a, vs, rfl, h1, h2⟩ := rep_scr at_.st.ok ra
    obtain ⟨b, us, rfl, h3, h4, _⟩ := rep_lst at_.st.ok rb
    exact ⟨a, b, vs, us, rfl, rfl, h1, h3, by rw [h2.length, h4.length]; exact r.1, fun p hp => Run.new at_ r.2 hp (lst_laid at_.st.ok hp (h2.append h4))⟩
  case tup xs =>
    cases b <;> first | exact J2.no | skip
    rename_i ys
    refine J2.of (m := need (xs.length + ys.length ≤ sizeLine) (ret (.tup (xs ++ ys)))) op_catA (mono_need mono_ret) fun σ ρ w x y Q at_ ra rb r => ?_
    have ra' := ra
    have rb' := rb
    obtain ⟨a, vs, rfl, h1, h2⟩ := rep_tup at_.st.ok ra
    obtain ⟨b, us, rfl, h3, h4⟩ := rep_tup at_.st.ok rb
    obtain ⟨hz, r⟩ := r
    refine ⟨a, b, vs, us, rfl, rfl, h1, h3, by rw [h2.length, h4.length]; exact hz, fun e => ?_, fun _ e => ?_, fun _ _ p hp => Run.new at_ r hp (tup_laid at_.st.ok hp (h2.append h4))⟩
    · have e2 : xs = [] := List.eq_nil_of_length_eq_zero (by rw [← h2.length, e]; rfl)
      subst e2
      exact Run.fin at_ r rb'
    · have e2 : ys = [] := List.eq_nil_of_length_eq_zero (by rw [← h4.length, e]; rfl)
      subst e2
      rw [List.append_nil] at r
      exact Run.fin at_ r ra'
def mulD : D → D → M D
  | .int i, .int j => need (cMul i j) (ret (.int (i * j)))
  | .lst xs, .int k => need (-(2 ^ 63) ≤ k ∧ k < 2 ^ 63 ∧ xs.length * k.toNat ≤ sizeLine) (ret (.lst (List.replicate k.toNat xs).flatten))
  | _, _ => fail
def rRepL : R2 := fun x y H Q => ∃ l k xs, x = .ref l ∧ y = .int k ∧ Rd H l (.lst xs) ∧ -(2 ^ 63) ≤ k ∧ k < 2 ^ 63 ∧ xs.length * k.toNat ≤ sizeLine ∧ ∀ p, H p = none → Q (.ref p) (upd H p (.lst (List.replicate k.toNat xs).flatten))
theorem op_repL : OpR X (binaryOp .Mult) rRepL := by
  intro pins s σ H x y v u Q I rx ry h
  obtain ⟨l, k, xs, rfl, rfl, hH, h1, h2, hz, q⟩ := h
  cases rx
  obtain ⟨t, rfl⟩ := ry
  obtain ⟨z, its, n, r, e⟩ := hH.ok I.hok
  have hl := r.length
  have hlen : its.toArray.size * k.toNat ≤ sizeLine := by rw [List.size_toArray, ← hl]; exact hz
  have hcap : ¬ its.toArray.size * k.toNat > (2 ^ 63 - 1) / 8 := by
    have : (sizeLine : Nat) ≤ (2 ^ 63 - 1) / 8 := by decide
    omega
  have hfit : ¬ (!Builtin.List.listFitsIndex k) = true := by
    rw [fitsIndex_both h1 h2]
    exact Bool.false_ne_true
  have hlong : ¬ Builtin.List.listTooLong (its.toArray.size * k.toNat) = true := by
    rw [notLongL hlen]
    exact Bool.false_ne_true
  have hnew : List.foldl (fun x1 x2 => x1 ++ x2) #[] (List.replicate (if its.toArray.isEmpty = true then 0 else k.toNat) its.toArray) = (List.replicate k.toNat its).flatten.toArray := by
    have f0 : ∀ m : Nat, List.foldl (fun x1 x2 => x1 ++ x2) #[] (List.replicate m its.toArray) = (List.replicate m its).flatten.toArray := fun m => by
      have := foldl_rep its m []
      rw [List.nil_append] at this
      exact this
    rw [f0]
    cases its with
    | nil => simp
    | cons a r' => rw [if_neg (by simp)]
  refine wpAny_binaryOp_repeat_ref (T := "list") (U := "int") (by decide) ⟨_, e, rfl⟩ (fun s' => typeIs_int s' k t) noFill_list_mul PySem.F.fills_int_mul PySem.F.slot_int_rmul repeat_list PySem.F.slot_int_index.lookup
    (call_meets PySem.F.slot_int_rmul (typeIs_int s k t) PySem.F.entry_int_rmul (PySem.F.args_int_rmul_2 _ _) (int___rmul___int_list k t l its.toArray n)
      ⟨e, rfl, ⟨_, e, rfl⟩, call_meets PySem.F.slot_list_mul ⟨_, e, rfl⟩ PySem.F.entry_list_mul (PySem.F.args_list_mul_2 _ _) (AutoListH.list___mul___list_int_3 l its.toArray n k t hfit hcap hlong) ⟨e, ?_⟩⟩)
  rw [hnew]
  exact ⟨.ref _, _, I.lnew (t' := s.toks) (r.rep k.toNat) (by rw [PyProof.Rows.lm_len_rep_flat, Nat.mul_comm]; exact hz), rfl, q _ I.fresh⟩
theorem j_mul (hK : X.K = K := by rfl) : J2A K w0 W X (binaryOp .Mult) mulD := fun a b => by
  subst hK
  cases a <;> first | exact J2.no | skip
  case int i => cases b <;> first | exact J2.no | exact j2_int op_mulC
  case lst xs =>
    cases b <;> first | exact J2.no | skip
    rename_i k
    refine J2.of (m := need (-(2 ^ 63) ≤ k ∧ k < 2 ^ 63 ∧ xs.length * k.toNat ≤ sizeLine) (ret (.lst (List.replicate k.toNat xs).flatten))) op_repL (mono_need mono_ret) fun σ ρ w x y Q at_ ra rb r => ?_
    obtain ⟨a, vs, rfl, h1, h2, h3⟩ := rep_lst at_.st.ok ra
    unfold Rep at rb; subst rb
    obtain ⟨⟨z1, z2, z3⟩, r⟩ := r
    exact ⟨a, k, vs, rfl, rfl, h3, z1, z2, by rw [h2.length]; exact z3, fun p hp => Run.new at_ r hp (lst_laid at_.st.ok hp (h2.flat _))⟩
theorem j2_sc {a b : D} {va vb : V} {r : Bool} (ha : ∀ G v, Rep K G a v → v = va) (hb : ∀ G v, Rep K G b v → v = vb) (hs : scal va vb = true) (hr : decide (va = vb) = r) : J2 K w0 W X (compareOp .Eq) a b (ret (.bl (xor false r))) :=
  .of op_eq mono_ret fun σ ρ w x y Q at_ ra rb q => by
    rw [ha _ _ ra, hb _ _ rb]
    exact ⟨hs, by rw [hr]; rw [Bool.false_xor] at q; exact Run.fin at_ q rBl⟩
theorem j2_scN {a b : D} {va vb : V} {r : Bool} (ha : ∀ G v, Rep K G a v → v = va) (hb : ∀ G v, Rep K G b v → v = vb) (hs : scal va vb = true) (hr : decide (va = vb) = r) : J2 K w0 W X (compareOp .NotEq) a b (ret (.bl (xor true r))) :=
  .of op_ne mono_ret fun σ ρ w x y Q at_ ra rb q => by
    rw [ha _ _ ra, hb _ _ rb]
    exact ⟨hs, by rw [hr]; rw [Bool.true_xor] at q; exact Run.fin at_ q rBl⟩
theorem j2_data {a b : D} (hu : X.A.units + 64 < cLine) (hK : X.K = K := by rfl) : J2 K w0 W X (compareOp .Eq) a b (need (pyOk a ∧ pyOk b) (ret (.bl (xor false (PyData.eqv (py a) (py b)))))) := by
  subst hK
  refine J2.of (op_eqD hu) (mono_need mono_ret) fun σ ρ w x y Q at_ ra rb q => ?_
  obtain ⟨⟨⟨a1, a2⟩, b1, b2⟩, q⟩ := q
  exact ⟨py a, py b, dp_of at_.st.ok.le a a1 ra, dp_of at_.st.ok.le b b1 rb, a2, b2, by rw [Bool.false_xor] at q; exact Run.fin at_ q rBl⟩
theorem j2_dataN {a b : D} (hu : X.A.units + 64 < cLine) (hK : X.K = K := by rfl) : J2 K w0 W X (compareOp .NotEq) a b (need (pyOk a ∧ pyOk b) (ret (.bl (xor true (PyData.eqv (py a) (py b)))))) := by
  subst hK
  refine J2.of (op_neD hu) (mono_need mono_ret) fun σ ρ w x y Q at_ ra rb q => ?_
  obtain ⟨⟨⟨a1, a2⟩, b1, b2⟩, q⟩ := q
  exact ⟨py a, py b, dp_of at_.st.ok.le a a1 ra, dp_of at_.st.ok.le b b1 rb, a2, b2, by rw [Bool.true_xor] at q; exact Run.fin at_ q rBl⟩
theorem uInt {i : Int} : ∀ G v, Rep K G (.int i) v → v = .int i := fun _ _ h => by unfold Rep at h; exact h
theorem uStr {i : Str} : ∀ G v, Rep K G (.str i) v → v = .str i := fun _ _ h => by unfold Rep at h; exact h
theorem uBl {i : Bool} : ∀ G v, Rep K G (.bl i) v → v = .bl i := fun _ _ h => by unfold Rep at h; exact h
theorem uByt {i : Array UInt8} : ∀ G v, Rep K G (.byt i) v → v = .byt i := fun _ _ h => by unfold Rep at h; exact h
theorem uNon : ∀ G v, Rep K G .non v → v = .non := fun _ _ h => by unfold Rep at h; exact h
theorem dec_i {i j : Int} : decide (V.int i = V.int j) = decide (i = j) := by rw [decide_eq_decide]; exact ⟨fun h => V.int.inj h, fun h => by rw [h]⟩
theorem dec_s {i j : Str} : decide (V.str i = V.str j) = decide (i = j) := by rw [decide_eq_decide]; exact ⟨fun h => V.str.inj h, fun h => by rw [h]⟩
theorem dec_b {i j : Bool} : decide (V.bl i = V.bl j) = decide (i = j) := by rw [decide_eq_decide]; exact ⟨fun h => V.bl.inj h, fun h => by rw [h]⟩
theorem dec_y {i j : Array UInt8} : decide (V.byt i = V.byt j) = decide (i = j) := by rw [decide_eq_decide]; exact ⟨fun h => V.byt.inj h, fun h => by rw [h]⟩
theorem j_eq (hu : X.A.units + 64 < cLine) (hK : X.K = K := by rfl) : J2A K w0 W X (compareOp .Eq) (eqB false) := fun a b => by
  unfold eqB
  split
  · exact j2_sc uInt uInt rfl dec_i
  · exact j2_sc uStr uStr rfl dec_s
  · exact j2_sc uBl uBl rfl dec_b
  · exact j2_sc uByt uByt rfl dec_y
  · exact j2_sc uNon uNon rfl rfl
  · exact j2_sc (r := false) uNon uInt rfl rfl
  · exact j2_sc (r := false) uInt uNon rfl rfl
  · exact j2_sc (r := false) uNon uStr rfl rfl
  · exact j2_sc (r := false) uStr uNon rfl rfl
  · exact j2_sc (r := false) uNon uBl rfl rfl
  · exact j2_sc (r := false) uBl uNon rfl rfl
  · exact j2_sc (r := false) uInt uStr rfl rfl
  · exact j2_sc (r := false) uStr uInt rfl rfl
  · exact j2_sc (r := false) uBl uStr rfl rfl
  · exact j2_sc (r := false) uStr uBl rfl rfl
  · exact j2_data hu hK
theorem j_ne (hu : X.A.units + 64 < cLine) (hK : X.K = K := by rfl) : J2A K w0 W X (compareOp .NotEq) (eqB true) := fun a b => by
  unfold eqB
  split
  · exact j2_scN uInt uInt rfl dec_i
  · exact j2_scN uStr uStr rfl dec_s
  · exact j2_scN uBl uBl rfl dec_b
  · exact j2_scN uByt uByt rfl dec_y
  · exact j2_scN uNon uNon rfl rfl
  · exact j2_scN (r := false) uNon uInt rfl rfl
  · exact j2_scN (r := false) uInt uNon rfl rfl
  · exact j2_scN (r := false) uNon uStr rfl rfl
  · exact j2_scN (r := false) uStr uNon rfl rfl
  · exact j2_scN (r := false) uNon uBl rfl rfl
  · exact j2_scN (r := false) uBl uNon rfl rfl
  · exact j2_scN (r := false) uInt uStr rfl rfl
  · exact j2_scN (r := false) uStr uInt rfl rfl
  · exact j2_scN (r := false) uBl uStr rfl rfl
  · exact j2_scN (r := false) uStr uBl rfl rfl
  · exact j2_dataN hu hK
end
end Dn

namespace Dn
open PySem PySem.W PySem.Spec PyProof.Rows L2 TL Bits An
section
variable {K : Frag} {w0 w w1 : Wd} {W : WX} {X : Cx} {ρ : Rh} {σ : L2.St} {pins : List (Addr × Obj)} {s : Shared} {pos p : Pos} {tg : Expr}
abbrev RI (K : Frag) (w0 : Wd) (σ : L2.St) (ρ : Rh) (w : Wd) (Qd : List D → Sv → Prop) : It → Hp → Prop := fun J H' => ∃ ds w', w'.H = H' ∧ Nx K w0 w w' ρ σ ∧ ItOk K w' J ds ∧ Qd ds w'.S
theorem DI.of {iter : Expr} {wi : TI} {m : Rh → M (List D)} (hp : PI X tg iter wi) (hm : ∀ ρ, Mono (m ρ))
    (h : ∀ (σ : L2.St) (ρ : Rh) (w : Wd) (Qd : List D → Sv → Prop) (Ed : Xn → Sv → Prop), At K w0 w ρ σ → m ρ w.S Qd Ed → ExcE K w0 W w ρ σ Ed → wi σ w.H (RI K w0 σ ρ w Qd)) : DI K w0 W X tg iter m :=
  ⟨hm, fun pins s σ ρ w Qd Ed I at_ r hE => hp.run pins s σ w.H _ I (h σ ρ w Qd Ed at_ r hE)⟩
theorem tA_bind {α : Type} {es : List Expr} {m : Rh → M (List D)} (h : DA K w0 W X es m) {k : List D → M α} {Qd : α → Sv → Prop} {Ed : Xn → Sv → Prop} {R : List V → Hp → Prop} (at_ : At K w0 w ρ σ) (r : bind (m ρ) k w.S Qd Ed) (hE : ExcE K w0 W w ρ σ Ed)
    (f : ∀ w' vs ds, Nx K w0 w w' ρ σ → RepL K w'.toGd ds vs → k ds w'.S Qd Ed → R vs w'.H) : tA K w0 W m σ w.H R :=
  ⟨w, ρ, rfl, at_, h.mono ρ _ _ _ _ _ (fun d S' q w' v e n rd => f w' v d n rd (by rw [e]; exact q)) (fun x S' q w' c d e n rx => hE x w' c d (by rw [e]; exact q) n rx) r⟩
theorem itOk_of {J : It} {n : Nat} {G : Hp → Prop} {Y : Nat → Hp → V → Hp → Prop} {ds : List D} (wk : Walk J n G Y) (hn : ds.length = n) (hG : ∀ w', Gle w.toGd w'.toGd → Wok K w' → G w'.H)
    (hY : ∀ (w' : Wd) (i : Nat) d x H', Gle w.toGd w'.toGd → Wok K w' → ds[i]? = some d → Y i w'.H x H' → ∃ w'', w''.H = H' ∧ w''.S = w'.S ∧ Step K w' w'' ∧ Rep K w''.toGd d x) : ItOk K w J ds :=
  ⟨fun w' g ok => by rw [hn]; exact wk.stops _ (hG w' g ok), fun w' i g ok hi => wk.goes i _ (by omega) (hG w' g ok), fun w' i d x H' g ok hd y => hY w' i d x H' g ok hd (wk.yields i _ x H' (by rw [← hn]; exact (List.getElem?_eq_some_iff.mp hd).1) (hG w' g ok) y)⟩
theorem rd_seq {G : Gd} {a : Addr} {vs : List V} {w' : Wd} (g : Gle G w'.toGd) (ok : Wok K w') (h : Rd G.F a (.lst vs)) : SqL K w'.H a vs := .inl (rd_le (fun _ _ e => ok.le _ _ (g.f _ _ e)) h)
theorem rt_seq {G : Gd} {a : Addr} {vs : List V} {w' : Wd} (g : Gle G w'.toGd) (ok : Wok K w') (h : SqT K G.F a vs) : SqT K w'.H a vs := sqT_le (fun _ _ e => ok.le _ _ (g.f _ _ e)) h
theorem itOk_list {a : Addr} {vs : List V} {ds : List D} (h : Rd w.F a (.lst vs)) (r : RepL K w.toGd ds vs) : ItOk K w (Itl K a) ds :=
  itOk_of (walk_list (xs := vs)) r.length.symm (fun w' g ok => rd_seq g ok h) fun w' i d x H' g ok hd y => by
    obtain ⟨rfl, y⟩ := y
    obtain ⟨v, hv, rv⟩ := r.get hd
    rw [hv] at y; cases y
    exact ⟨w', rfl, rfl, Step.refl ok, Rep.le g _ rv⟩
theorem itOk_tup {a : Addr} {vs : List V} {ds : List D} (h : SqT K w.F a vs) (r : RepL K w.toGd ds vs) : ItOk K w (Itt K a) ds :=
  itOk_of (walk_tup (xs := vs)) r.length.symm (fun w' g ok => rt_seq g ok h) fun w' i d x H' g ok hd y => by
    obtain ⟨rfl, y⟩ := y
    obtain ⟨v, hv, rv⟩ := r.get hd
    rw [hv] at y; cases y
    exact ⟨w', rfl, rfl, Step.refl ok, Rep.le g _ rv⟩
def signs (z : Str) : List D := z.cps.toList.map fun c => .str ⟨#[c]⟩
theorem itOk_str {z : Str} : ItOk K w (Its z) (signs z) :=
  itOk_of walk_str (by unfold signs; simp) (fun _ _ _ => trivial) fun w' i d x H' g ok hd y => by
    obtain ⟨rfl, c, hc, rfl⟩ := y
    unfold signs at hd
    rw [List.getElem?_map] at hd
    have : z.cps.toList[i]? = some c := by simpa using hc
    rw [this] at hd
    cases hd
    exact ⟨w', rfl, rfl, Step.refl ok, rStr⟩
def rngL (lo : Int) (n : Nat) : List D := (List.range n).map fun i => .int (lo + (i : Nat))
theorem rngL_get {lo : Int} {n i : Nat} {d : D} (h : (rngL lo n)[i]? = some d) : d = .int (lo + i) := by
  unfold rngL at h
  rw [List.getElem?_map] at h
  cases e : (List.range n)[i]? with
  | none => rw [e] at h; cases h
  | some j =>
    rw [e] at h
    have := (List.getElem?_eq_some_iff.mp e).2
    rw [List.getElem_range] at this
    subst this
    cases h; rfl
theorem itOk_rng {lo : Int} {n : Nat} : ItOk K w (Itr lo n) (rngL lo n) :=
  itOk_of walk_range (by unfold rngL; simp) (fun _ _ _ => trivial) fun w' i d x H' g ok hd y => by
    obtain ⟨rfl, rfl⟩ := y
    rw [rngL_get hd]
    exact ⟨w', rfl, rfl, Step.refl ok, rInt⟩
def rngC (lo c : Int) (n : Nat) : List D := (List.range n).map fun i => .int (lo + (i : Nat) * c)
theorem pair_laid {w' : Wd} {T : Addr} {x y : V} {a b : D} (ok : Wok K w') (hT : w'.H T = none) (ra : Rep K w'.toGd a x) (rb : Rep K w'.toGd b y) : ∃ w'', w''.H = upd w'.H T (.tup [x, y]) ∧ w''.S = w'.S ∧ Step K w' w'' ∧ Rep K w''.toGd (.tup [a, b]) (.ref T) :=
  ⟨w'.lay T (.tup [x, y]), rfl, rfl, Step.lay ok hT, tup_laid ok hT (RepL.cons ra (RepL.cons rb RepL.nil))⟩
def enumL (ds : List D) : List D := (rngL 0 ds.length).zipWith (fun i d => .tup [i, d]) ds
def zipD (xs ys : List D) : List D := xs.zipWith (fun a b => .tup [a, b]) ys
theorem zipD_get {xs ys : List D} {i : Nat} {d : D} (h : (zipD xs ys)[i]? = some d) : ∃ a b, xs[i]? = some a ∧ ys[i]? = some b ∧ d = .tup [a, b] := by
  unfold zipD at h
  rw [List.getElem?_zipWith] at h
  cases e1 : xs[i]? with
  | none => rw [e1] at h; cases h
  | some a =>
    cases e2 : ys[i]? with
    | none => rw [e1, e2] at h; cases h
    | some b => rw [e1, e2] at h; cases h; exact ⟨a, b, rfl, rfl, rfl⟩
theorem itOk_enum {a : Addr} {vs : List V} {ds : List D} (h : Rd w.F a (.lst vs)) (r : RepL K w.toGd ds vs) : ItOk K w (Ite K a) (enumL ds) :=
  itOk_of (walk_enum (xs := vs)) (by unfold enumL rngL; simp [r.length]) (fun w' g ok => rd_seq g ok h) fun w' i d x H' g ok hd y => by
    obtain ⟨T, x1, y1, rfl, hT, rfl, e1, e2⟩ := y
    obtain ⟨a1, b1, h1, h2, rfl⟩ := zipD_get (xs := rngL 0 ds.length) hd
    rw [rngL_get h1]
    cases e1
    obtain ⟨v, hv, rv⟩ := r.get h2
    have e2 : vs[i]? = some y1 := e2
    rw [hv] at e2; cases e2
    have e0 : (0 : Int) + (i : Nat) = (i : Nat) := by omega
    rw [e0]
    exact pair_laid ok hT rInt (Rep.le g _ rv)
def itD : D → M (List D)
  | .lst xs => ret xs
  | .tup xs => ret xs
  | .str z => ret (signs z)
  | _ => fail
theorem mono_itD {d : D} : Mono (itD d) := by cases d <;> first | exact mono_ret | exact mono_fail
theorem di_any {iter : Expr} {m : Rh → M D} (h : DE K w0 W X iter m) (hK : X.K = K := by rfl) : DI K w0 W X tg iter (fun ρ => bind (m ρ) itD) := by
  subst hK
  refine ⟨fun ρ => mono_bind (h.mono ρ) fun _ => mono_itD, fun pins s σ ρ w Qd Ed I at_ r hE => ?_⟩
  refine thn (h.raw I at_ r hE) ?_
  rintro v s1 ⟨x, d, w1, I1, n1, rx, rd, q⟩
  cases d <;> first | exact q.elim | skip
  case lst ds =>
    have rd' := rd
    unfold Rep at rd
    obtain ⟨a, vs, rfl, h1, h2⟩ := rd
    cases rx
    obtain ⟨its, rv, pl, hz⟩ := I1.list (a := a) (xs := vs) (.inl (rd_le n1.at_.st.ok.le h1))
    refine wpAny_pyIter_list pl.isList ?_
    refine ⟨s1.heap.objs.size, [s1.heap.objs.size], _, _, w1.H, rfl, I1.kept (t' := s1.toks) fun b o e => Heap.get?_push_of_some _ e, turn_list a _, ⟨_, Heap.get?_push_size _ rfl, rfl, rfl⟩, fun b hb => ?_, ds, w1, rfl, n1, itOk_list h1 h2, q⟩
    have e : b = s1.heap.objs.size := by simpa using hb
    rw [e]
    exact I1.fpOk (Nat.le_refl _) I1.fresh
  case tup ds =>
    unfold Rep at rd
    obtain ⟨a, vs, rfl, h1, h2⟩ := rd
    cases rx
    obtain ⟨its, rv, pl, hz⟩ := I1.tuple (a := a) (xs := vs) (sqT_le n1.at_.st.ok.le h1)
    refine wpAny_pyIter_tuple (show s1.heap.IsTuple a its.toArray from pl) ?_
    refine ⟨s1.heap.objs.size, [s1.heap.objs.size], _, _, w1.H, rfl, I1.kept (t' := s1.toks) fun b o e => Heap.get?_push_of_some _ e, turn_tuple a _, ⟨_, Heap.get?_push_size _ rfl, rfl, rfl⟩, fun b hb => ?_, ds, w1, rfl, n1, itOk_tup h1 h2, q⟩
    have e : b = s1.heap.objs.size := by simpa using hb
    rw [e]
    exact I1.fpOk (Nat.le_refl _) I1.fresh
  case str z =>
    unfold Rep at rd
    subst rd
    obtain ⟨t, rfl⟩ := rx
    have q' : RI X.K w0 σ ρ w Qd (Its z) w1.H := ⟨signs z, w1, rfl, n1, itOk_str, q⟩
    cases ha : z.cps.all (· < 128)
    · exact wpAny_pyIter_wide ha (pi_one (tk := s1.toks) I1 _ (turn_str _ z t "str_iterator" (.inr rfl)) ⟨_, Heap.get?_push_size _ rfl, rfl, rfl⟩ q')
    · exact wpAny_pyIter_ascii ha (pi_one (tk := s1.toks) I1 _ (turn_str _ z t "str_ascii_iterator" (.inl rfl)) ⟨_, Heap.get?_push_size _ rfl, rfl, rfl⟩ q')
def rng1D : List D → M (List D)
  | [.int j] => need (-(2 ^ 62) ≤ j ∧ j < 2 ^ 62) (ret (rngL 0 j.toNat))
  | _ => fail
def rng2D : List D → M (List D)
  | [.int i, .int j] => need (-(2 ^ 62) ≤ i ∧ i < 2 ^ 62 ∧ -(2 ^ 62) ≤ j ∧ j < 2 ^ 62) (ret (rngL i (j - i).toNat))
  | _ => fail
def rng3D : List D → M (List D)
  | [.int i, .int j, .int c] => need (c = -1 ∧ -(2 ^ 62) ≤ i ∧ i < 2 ^ 62 ∧ -(2 ^ 62) ≤ j ∧ j < 2 ^ 62) (ret (rngC i (-1) (i - j).toNat))
  | _ => fail
theorem mono_rng1 {ds : List D} : Mono (rng1D ds) := by unfold rng1D; split; exact mono_need mono_ret; exact mono_fail
theorem RepL.one {G : Gd} {ds : List D} {v : V} (h : RepL K G ds [v]) : ∃ d, ds = [d] ∧ Rep K G d v := by
  match ds, h with
  | [], h => unfold RepL at h; cases h
  | [d], h => unfold RepL at h; obtain ⟨_, _, e, r, _⟩ := h; cases e; exact ⟨d, rfl, r⟩
  | _ :: _ :: _, h => have := h.length; simp at this
theorem RepL.inv1 {G : Gd} {a : D} {vs : List V} (h : RepL K G [a] vs) : ∃ v, vs = [v] ∧ Rep K G a v := by
  unfold RepL at h
  obtain ⟨v, r, rfl, h1, h2⟩ := h
  unfold RepL at h2
  subst h2
  exact ⟨v, rfl, h1⟩
theorem RepL.inv2 {G : Gd} {a b : D} {vs : List V} (h : RepL K G [a, b] vs) : ∃ v u, vs = [v, u] ∧ Rep K G a v ∧ Rep K G b u := by
  unfold RepL at h
  obtain ⟨v, r, rfl, h1, h2⟩ := h
  obtain ⟨u, rfl, h3⟩ := h2.inv1
  exact ⟨v, u, rfl, h1, h3⟩
theorem di_range1 {a : Expr} {m : Rh → M (List D)} (hm : X.mg "range" = none) (h : DA K w0 W X [a] m) (hg : Gl X "range" := by rfl) (hs : starEach [a] X.env = [(false, eval a X.env)] := by rfl) : DI K w0 W X tg (.Call (.Name "range" p) [a] [] pos) (fun ρ => bind (m ρ) rng1D) := by
  refine .of (pi_range1 hg hm h.pa hs) (fun ρ => mono_bind (h.mono ρ) fun _ => mono_rng1) fun σ ρ w Qd Ed at_ r hE => tA_bind h at_ r hE fun w' vs ds n rl q => ?_
  unfold rng1D at q
  split at q
  · obtain ⟨v, rfl, r1⟩ := rl.inv1
    unfold Rep at r1; subst r1
    exact ⟨_, rfl, q.1.1, q.1.2, _, w', rfl, n, itOk_rng, q.2⟩
  · exact q.elim
def enumD : List D → M (List D)
  | [.lst xs] => ret (enumL xs)
  | _ => fail
theorem mono_enum {ds : List D} : Mono (enumD ds) := by unfold enumD; split; exact mono_ret; exact mono_fail
theorem di_enum {e : Expr} {m : Rh → M (List D)} {tpos : Pos} {elts : List Expr} {kk : Nat} (hm : X.mg "enumerate" = none) (h : DA K w0 W X [e] m) (hK : X.K = K := by rfl) (hg : Gl X "enumerate" := by rfl) (hs : starEach [e] X.env = [(false, eval e X.env)] := by rfl) :
    DI K w0 W X (.Tuple elts kk tpos) (.Call (.Name "enumerate" p) [e] [] pos) (fun ρ => bind (m ρ) enumD) := by
  subst hK
  refine .of (pi_enum hg hm h.pa hs) (fun ρ => mono_bind (h.mono ρ) fun _ => mono_enum) fun σ ρ w Qd Ed at_ r hE => tA_bind h at_ r hE fun w' vs ds n rl q => ?_
  unfold enumD at q
  split at q
  · obtain ⟨v, rfl, r1⟩ := rl.inv1
    unfold Rep at r1
    obtain ⟨a, vs, rfl, h1, h2⟩ := r1
    exact ⟨a, vs, rfl, .inl (rd_le n.at_.st.ok.le h1), _, w', rfl, n, itOk_enum h1 h2, q⟩
  · exact q.elim
def zip2D : List D → M (List D)
  | [.lst xs, .lst ys] => ret (zipD xs ys)
  | _ => fail
def wipeR (ρ : Rh) : List Nat → Rh
  | [] => ρ
  | v :: vs => (wipeR ρ vs).set v .un
theorem Good.un {i : Nat} (g : Good K w0 w ρ σ) : Good K w0 w (ρ.set i .un) (σ.set i none) where
  len := by rw [List.length_set, List.length_set]; exact g.len
  at_ := fun j t e => by
    by_cases h : j = i
    · subst h
      have hl : j < ρ.length := by
        have := (List.getElem?_eq_some_iff.mp e).1
        rwa [List.length_set] at this
      rw [List.getElem?_set_self hl] at e
      cases e
      trivial
    · rw [List.getElem?_set_ne (Ne.symm h)] at e ⊢
      exact g.at_ j t e
  ne := fun a b s t x hab ea eb sa sb ea' => by
    have nS : ∀ {j : Nat} {t : Sl}, (ρ.set i .un)[j]? = some t → t.own = true → j ≠ i ∧ ρ[j]? = some t := fun {j t} e o => by
      by_cases h : j = i
      · subst h
        have hl : j < ρ.length := by
          have := (List.getElem?_eq_some_iff.mp e).1
          rwa [List.length_set] at this
        rw [List.getElem?_set_self hl] at e
        cases e; cases o
      · rw [List.getElem?_set_ne (Ne.symm h)] at e
        exact ⟨h, e⟩
    obtain ⟨n1, e1⟩ := nS ea sa
    obtain ⟨n2, e2⟩ := nS eb sb
    rw [List.getElem?_set_ne (Ne.symm n1)] at ea'
    rw [List.getElem?_set_ne (Ne.symm n2)]
    exact g.ne a b s t x hab e1 e2 sa sb ea'
theorem wipe_sub (σ : L2.St) : ∀ us vs : List Nat, (∀ i ∈ us, i ∈ vs) → wipe (wipe σ us) vs = wipe σ vs
  | [], _, _ => rfl
  | u :: us, vs, h => by
    show wipe ((wipe σ us).set u none) vs = wipe σ vs
    rw [wipe_set (h u (by simp)), wipe_sub σ us vs fun i hi => h i (List.mem_cons_of_mem _ hi)]
theorem wipe_wipe (σ : L2.St) (vs : List Nat) : wipe (wipe σ vs) vs = wipe σ vs := wipe_sub σ vs vs fun _ h => h
theorem Good.wipe (g : Good K w0 w ρ σ) : ∀ vs : List Nat, Good K w0 w (wipeR ρ vs) (wipe σ vs)
  | [] => g
  | v :: vs => by
    unfold wipeR L2.wipe
    exact (Good.wipe g vs).un
theorem At.wipe (a : At K w0 w ρ σ) (vs : List Nat) : At K w0 w (wipeR ρ vs) (wipe σ vs) := ⟨a.st, a.good.wipe vs⟩
def compL (g : Tg) (t : Rh → M Bool) (e : Rh → M D) : List D → Rh → M (List D)
  | [], _ => ret []
  | d :: ds, ρ => fun S Q E => g d ρ fun ρ' => t ρ' S (fun b S1 => iteP b (e ρ' S1 (fun x S2 => compL g t e ds ρ S2 (fun xs S3 => Q (x :: xs) S3) E) E) (compL g t e ds ρ S1 Q E)) E
def eLc (it : Rh → M (List D)) (vs : List Nat) (g : Tg) (t : Rh → M Bool) (e : Rh → M D) : Rh → M D := fun ρ => bind (it ρ) fun ds => need (ds.length < sizeLine) (noex (bind (compL g t e ds (wipeR ρ vs)) fun xs => ret (.lst xs)))
theorem mono_compL {g : Tg} {t : Rh → M Bool} {e : Rh → M D} (hg : ∀ d ρ k k', (∀ ρ', k ρ' → k' ρ') → g d ρ k → g d ρ k') (ht : ∀ ρ, Mono (t ρ)) (he : ∀ ρ, Mono (e ρ)) : ∀ ds ρ, Mono (compL g t e ds ρ)
  | [], _ => mono_ret
  | d :: ds, ρ => fun S Q Q' E E' q ex h => hg _ _ _ _ (fun ρ' h => ht ρ' _ _ _ _ _ (fun b S1 h => by
    cases b with
    | true => exact ⟨fun _ => he ρ' _ _ _ _ _ (fun x S2 h => mono_compL hg ht he ds ρ _ _ _ _ _ (fun xs S3 => q _ _) ex h) ex (h.1 rfl), fun z => by cases z⟩
    | false => exact ⟨fun z => (by cases z), fun _ => mono_compL hg ht he ds ρ _ _ _ _ _ q ex (h.2 rfl)⟩) ex h) h
theorem mono_lc {it : Rh → M (List D)} {vs : List Nat} {g : Tg} {t : Rh → M Bool} {e : Rh → M D} (hi : ∀ ρ, Mono (it ρ)) (hg : ∀ d ρ k k', (∀ ρ', k ρ' → k' ρ') → g d ρ k → g d ρ k') (ht : ∀ ρ, Mono (t ρ)) (he : ∀ ρ, Mono (e ρ)) : ∀ ρ, Mono (eLc it vs g t e ρ) := fun ρ =>
  mono_bind (hi ρ) fun _ => mono_need (mono_noex (mono_bind (mono_compL hg ht he _ _) fun _ => mono_ret))
abbrev WF : WX := fun _ _ _ _ => False
def tGD (K : Frag) (w0 : Wd) (is : List Nat) (g : Tg) : TG := fun v σ H Q => ∃ w ρ d, w.H = H ∧ At K w0 w ρ σ ∧ Rep K w.toGd d v ∧ g d ρ fun ρ' => ∀ σ', At K w0 w ρ' σ' → OnlyAt is σ σ' → Q σ' w.H
theorem DG.pg {is : List Nat} {g : Tg} (h : DG K w0 W X tg is g) : PG X tg (tGD K w0 is g) := ⟨fun pins s σ H v u Q I rv hh => by
  obtain ⟨w, ρ, d, rfl, at_, rd, q⟩ := hh
  refine thn (h.run pins s σ ρ w v u d _ I at_ rv rd q) ?_
  rintro _ s' ⟨ρ', σ', I', at', o', q'⟩
  exact ⟨σ', w.H, I', q' σ' at' o'⟩⟩
structure DTs (K : Frag) (w0 : Wd) (W : WX) (X : Cx) (ifs : List Expr) (m : Rh → M Bool) : Prop where
  mono : ∀ ρ, Mono (m ρ)
  pts : PTs X ifs (tB K w0 W m)
def bYes : Rh → M Bool := fun _ => ret true
theorem dts_nil : DTs K w0 W X [] bYes := ⟨fun _ => mono_ret, ⟨fun pins s σ H Q I h => by
  obtain ⟨w, ρ, rfl, at_, r⟩ := h
  exact pts_nil.run pins s σ w.H Q I (RunB.fin at_ r)⟩⟩
theorem Step.putNew {D0 : Addr} {o : HO} (x : Step K w w1) (h0 : w.H D0 = none) (hf : w1.F D0 = none) (hc : ¬ w1.C D0) : Step K w (w1.put D0 o) where
  ok := x.ok.put hf hc
  f := x.f
  a := x.a
  h := fun a u e c => by
    show upd w1.H D0 o a = some u
    rw [upd_ne (fun z => by rw [z, h0] at e; cases e)]; exact x.h a u e c
  c := x.c
  cn := x.cn
  fn := x.fn
structure LcAt (K : Frag) (w1 : Wd) (D0 : Addr) (ds : List D) (i : Nat) (w : Wd) (acc : List D) : Prop where
  st : Step K w1 w
  f : w.F D0 = none
  c : ¬ w.C D0
  at_ : ∃ vs, w.H D0 = some (.lst vs) ∧ RepL K w.toGd acc vs
  len : acc.length ≤ i
theorem LcAt.step {D0 : Addr} {ds : List D} {i : Nat} {w w' : Wd} {acc : List D} (h : LcAt K w1 D0 ds i w acc) (x : Step K w w') : LcAt K w1 D0 ds i w' acc := by
  obtain ⟨vs, h1, h2⟩ := h.at_
  refine ⟨h.st.trans x, ?_, fun z => (x.cn _ z).elim h.c (fun q => by rw [q] at h1; cases h1), ⟨vs, x.h _ _ h1 h.c, RepL.le x.le _ h2⟩, h.len⟩
  cases e : w'.F D0 with
  | none => rfl
  | some u => exact (x.fn _ u e).elim (fun q => by have := h.f; rw [q] at this; cases this) (fun q => q.elim (fun q => by rw [q] at h1; cases h1) (fun ⟨_, q⟩ => by rw [q] at h1; cases h1))
theorem lc_read {is vs0 : List Nat} {g : Tg} {mt : Rh → M Bool} {me : Rh → M D} {Qd : D → Sv → Prop} {Ed : Xn → Sv → Prop} {Q : VK} (at_ : At K w0 w ρ σ) (his : ∀ i ∈ is, i ∈ vs0) (hmg : ∀ d ρ k k', (∀ ρ', k ρ' → k' ρ') → g d ρ k → g d ρ k') (hmt : ∀ ρ, Mono (mt ρ)) (hme : ∀ ρ, Mono (me ρ))
    (hQ : ∀ v w' d, Nx K w0 w w' ρ σ → Rep K w'.toGd d v → Qd d w'.S → Q v w'.H) :
    ∀ J H1, RI K w0 σ ρ w (fun ds S' => need (ds.length < sizeLine) (noex (bind (compL g mt me ds (wipeR ρ vs0)) fun xs => ret (.lst xs))) S' Qd Ed) J H1 →
      ∀ D0, H1 D0 = none → ∃ Wi : Nat → Nat → Hp → Prop, (∃ m, Wi 0 m (upd H1 D0 (.lst []))) ∧ ∀ i m H, Wi i m H →
        (J.stop i H ∧ Q (.ref D0) H) ∨ (J.go i H ∧ ∃ Nn : Hp → Prop, (∀ H', Nn H' → ∃ m', m' < m ∧ Wi (i + 1) m' H') ∧ ∀ x H', J.yld i H x H' → tGD K w0 is g x (wipe σ vs0) H' fun σ2 H2 => wipe σ2 vs0 = wipe σ vs0 ∧ tB K w0 WF mt σ2 H2 fun b H3 =>
          if b = true then tD K w0 WF me σ2 H3 fun y H4 => ∃ acc, H4 D0 = some (.lst acc) ∧ acc.length < sizeLine ∧ Nn (upd H4 D0 (.lst (acc ++ [y]))) else Nn H3) := by
  rintro J H1 ⟨ds, w1, rfl, n1, ok1, hz, q⟩ D0 hD
  have q : bind (compL g mt me ds (wipeR ρ vs0)) (fun xs => ret (.lst xs)) w1.S Qd (fun _ _ => False) := q
  have ok' := n1.at_.st.ok
  refine ⟨fun i m H => ∃ w' acc, m = ds.length - i ∧ i ≤ ds.length ∧ w'.H = H ∧ LcAt K w1 D0 ds i w' acc ∧ compL g mt me (ds.drop i) (wipeR ρ vs0) w'.S (fun xs S3 => Qd (.lst (acc ++ xs)) S3) (fun _ _ => False), ⟨ds.length, w1.put D0 (.lst []), [], by simp, Nat.zero_le _, rfl, ⟨Step.put ok' hD, ok'.fnone hD, fun z => ok'.ch _ z hD, ⟨[], upd_same, RepL.nil⟩, Nat.le_refl _⟩, q⟩, ?_⟩
  rintro i m H ⟨w2, acc, rfl, hi2, rfl, lc, q2⟩
  by_cases hlt : i < ds.length
  · right
    obtain ⟨d, hd⟩ : ∃ d, ds[i]? = some d := ⟨ds[i], by simp [hlt]⟩
    have ed : ds.drop i = d :: ds.drop (i + 1) := by
      rw [List.drop_eq_getElem_cons hlt]
      have := List.getElem?_eq_some_iff.mp hd
      rw [this.2]
    rw [ed] at q2
    refine ⟨ok1.go w2 i lc.st.le lc.st.ok hlt, fun H' => ∃ w' acc, w'.H = H' ∧ LcAt K w1 D0 ds (i + 1) w' acc ∧ compL g mt me (ds.drop (i + 1)) (wipeR ρ vs0) w'.S (fun xs S3 => Qd (.lst (acc ++ xs)) S3) (fun _ _ => False), ?_, ?_⟩
    · rintro H' ⟨w', acc', e, l, q'⟩
      exact ⟨ds.length - (i + 1), by omega, w', acc', rfl, hlt, e, l, q'⟩
    · intro x H' y
      obtain ⟨w3, rfl, e3, st3, rep3⟩ := ok1.yld w2 i d x H' lc.st.le lc.st.ok hd y
      have lc3 := lc.step st3
      have at3 : At K w0 w3 (wipeR ρ vs0) (wipe σ vs0) := (n1.at_.step lc3.st).wipe _
      refine ⟨w3, _, d, rfl, at3, rep3, hmg _ _ _ _ (fun ρ' q3 σ' at' o' => ?_) q2⟩
      refine ⟨(o' _ his).trans (wipe_wipe _ _), ?_⟩
      refine ⟨w3, ρ', rfl, at', ?_⟩
      refine hmt ρ' _ _ _ (fun _ _ => False) _ (fun b S1 q4 w4 e4 n4 => ?_) (fun _ _ (z : False) => z.elim) (by rw [e3]; exact q3)
      have lc4 := lc3.step n4.st
      cases b with
      | false =>
        exact ⟨w4, acc, rfl, ⟨lc4.st, lc4.f, lc4.c, lc4.at_, Nat.le_succ_of_le lc4.len⟩, by rw [e4]; exact q4.2 rfl⟩
      | true =>
        refine ⟨w4, ρ', rfl, n4.at_, ?_⟩
        refine hme ρ' _ _ _ (fun _ _ => False) _ (fun y1 S2 q5 w5 v5 e5 n5 r5 => ?_) (fun _ _ (z : False) => z.elim) (by rw [e4]; exact q4.1 rfl)
        have lc5 := lc4.step n5.st
        obtain ⟨vs5, h51, h52⟩ := lc5.at_
        refine ⟨vs5, h51, by rw [h52.length]; have := lc5.len; omega, w5.put D0 (.lst (vs5 ++ [v5])), acc ++ [y1], rfl, ⟨lc5.st.putNew hD lc5.f lc5.c, lc5.f, lc5.c, ⟨_, upd_same, h52.append (RepL.cons r5 RepL.nil)⟩, by rw [List.length_append]; have := lc5.len; simp; omega⟩, ?_⟩
        show compL g mt me (ds.drop (i + 1)) (wipeR ρ vs0) w5.S _ _
        rw [e5]
        refine mono_compL hmg hmt hme _ _ _ _ _ _ _ (fun xs S3 z => ?_) (fun _ _ z => z) q5
        rw [List.append_assoc]
        exact z
  · left
    have e : i = ds.length := by omega
    subst e
    rw [List.drop_length] at q2
    obtain ⟨vs, h1, h2⟩ := lc.at_
    refine ⟨ok1.stop w2 lc.st.le lc.st.ok, hQ _ (w2.frz D0 (.lst vs)) (.lst acc) (n1.trans (n1.at_.nx (lc.st.frz hD h1 lc.f lc.c))) ?_ ?_⟩
    · unfold Rep
      exact ⟨D0, vs, rfl, .inl upd_same, RepL.le (gle_frz lc.f) _ h2⟩
    · have q2 : Qd (.lst (acc ++ [])) w2.S := q2
      rw [List.append_nil] at q2
      exact q2
theorem lc_pi {iter : Expr} {mi : Rh → M (List D)} (hi : DI K w0 W X tg iter mi) {α : Type} {k : List D → M α} {Qd : α → Sv → Prop} {Ed : Xn → Sv → Prop} (at_ : At K w0 w ρ σ) (r : bind (mi ρ) k w.S Qd Ed) (hE : ExcE K w0 W w ρ σ Ed) :
    PI X tg iter (fun σ' H' R => σ' = σ ∧ H' = w.H ∧ ∀ J H1, RI K w0 σ ρ w (fun ds S' => k ds S' Qd Ed) J H1 → R J H1) := by
  refine ⟨fun pins s' σ' H' R I' h => ?_⟩
  obtain ⟨rfl, rfl, h⟩ := h
  refine thn (hi.run pins s' σ' ρ w _ _ I' at_ r hE) fun v s1 h1 => thn h1 ?_
  rintro itv s2 ⟨it, fp, tn, J, H2, a, b, c, d, e, f⟩
  exact ⟨it, fp, tn, J, H2, a, b, c, d, e, h J H2 f⟩
theorem de_lc {elt iter : Expr} {ifs : List Expr} {scope : Scope} {own : List (Str × Nat)} {mi : Rh → M (List D)} {is : List Nat} {g : Tg} {mt : Rh → M Bool} {me : Rh → M D} (hc : X.calm = true) (hN : X.N.Nodup) (hi : DI K w0 W X tg iter mi) (ok : BlkOk X.N X.env.scope scope own) (his : ∀ i ∈ is, i ∈ own.map (·.2))
    (hg : ∀ (s : Shared) (H : Hp) (C : Addr) (cl : List (Str × Addr)) (fp : List Addr), DG K w0 WF (X.blk s H scope (compEnvC scope cl C X.env) fp) tg is g) (ht : ∀ (s : Shared) (H : Hp) (C : Addr) (cl : List (Str × Addr)) (fp : List Addr), DTs K w0 WF (X.blk s H scope (compEnvC scope cl C X.env) fp) ifs mt)
    (he : ∀ (s : Shared) (H : Hp) (C : Addr) (cl : List (Str × Addr)) (fp : List Addr), DE K w0 WF (X.blk s H scope (compEnvC scope cl C X.env) fp) elt me) (hs : ∀ x, foldedSetIterable iter X.env x = pure x := by intro _; rfl) :
    DE K w0 W X (.ListComp elt [⟨tg, iter, ifs, 0⟩] scope pos) (eLc mi (own.map (·.2)) g mt me) := by
  have hmg := (hg X.s_0 (fun _ => none) 0 [] []).mono
  have hmt := (ht X.s_0 (fun _ => none) 0 [] []).mono
  have hme := (he X.s_0 (fun _ => none) 0 [] []).mono
  refine .mk' (mono_lc hi.mono hmg hmt hme) fun pins s σ ρ w Qd Ed I at_ r hE => ?_
  refine thn ((pe_lc hc hN (lc_pi hi at_ r hE) ok (fun s H C cl fp => (hg s H C cl fp).pg) (fun s H C cl fp => (ht s H C cl fp).pts) (fun s H C cl fp => (he s H C cl fp).pe) hs).run pins s σ w.H (fun v H' => ∃ d w', w'.H = H' ∧ Nx K w0 w w' ρ σ ∧ Rep K w'.toGd d v ∧ Qd d w'.S) I ⟨rfl, rfl, ?_⟩) ?_
  · exact fun J H1 h => lc_read (Qd := Qd) (Ed := Ed) (Q := fun v H' => ∃ d w', w'.H = H' ∧ Nx K w0 w w' ρ σ ∧ Rep K w'.toGd d v ∧ Qd d w'.S) at_ his hmg hmt hme (fun v w' d n r q => ⟨d, w', rfl, n, r, q⟩) J H1 h
  · rintro u s' ⟨v, H', I', rv, d, w', rfl, n, rr, q⟩
    exact ⟨v, d, w', I', n, rv, rr, q⟩
theorem ds_setLc {i : Nat} {y : Str} {py spos : Pos} {elt iter : Expr} {ifs : List Expr} {scope : Scope} {own : List (Str × Nat)} {mi : Rh → M (List D)} {is : List Nat} {g : Tg} {mt : Rh → M Bool} {me : Rh → M D} (hc : X.calm = true) (hN : X.N.Nodup) (hy : X.N[i]? = some y) (hyl : X.env.scope.names.lookup y = some .local)
    (hsw : swapsWith (.ListComp elt [⟨tg, iter, ifs, 0⟩] scope pos) (some (.Name y py)) spos.line X.env = pure true) (hi : DI K w0 W X tg iter mi) (ok : BlkOk X.N X.env.scope scope own) (his : ∀ i ∈ is, i ∈ own.map (·.2))
    (hg : ∀ (s : Shared) (H : Hp) (C : Addr) (cl : List (Str × Addr)) (fp : List Addr), DG K w0 WF (X.blk s H scope (compEnvC scope cl C X.env) fp) tg is g) (ht : ∀ (s : Shared) (H : Hp) (C : Addr) (cl : List (Str × Addr)) (fp : List Addr), DTs K w0 WF (X.blk s H scope (compEnvC scope cl C X.env) fp) ifs mt)
    (he : ∀ (s : Shared) (H : Hp) (C : Addr) (cl : List (Str × Addr)) (fp : List Addr), DE K w0 WF (X.blk s H scope (compEnvC scope cl C X.env) fp) elt me) (hs : ∀ x, foldedSetIterable iter X.env x = pure x := by intro _; rfl) :
    DS K w0 W X (.Assign [.Name y py] (.ListComp elt [⟨tg, iter, ifs, 0⟩] scope pos) spos) (sSet (gN i) (eLc mi (own.map (·.2)) g mt me)) := by
  have hmg := (hg X.s_0 (fun _ => none) 0 [] []).mono
  have hmt := (ht X.s_0 (fun _ => none) 0 [] []).mono
  have hme := (he X.s_0 (fun _ => none) 0 [] []).mono
  refine .mk' (mono_set (fun _ _ _ _ h q => h _ q) (mono_lc hi.mono hmg hmt hme)) fun pins s σ ρ w D I at_ r hE => ?_
  refine thn ((ps_setLc hc hN hy hyl hsw (lc_pi hi at_ r (hE.e ρ σ)) ok (fun s H C cl fp => (hg s H C cl fp).pg) (fun s H C cl fp => (ht s H C cl fp).pts) (fun s H C cl fp => (he s H C cl fp).pe) hs).run pins s σ w.H (endsV K w0 w D) I ⟨rfl, rfl, ?_⟩) fun _ _ => sp_got
  exact fun J H1 h => lc_read (Qd := fun d S' => D.nx (ρ.set i (.sh d)) S') (Ed := fun x S' => D.ex x ρ S') (Q := fun v H' => (endsV K w0 w D).nx (σ.set i (some v)) H') at_ his hmg hmt hme (fun v w' d n r q => ⟨_, w', rfl, ⟨n.at_.set r, n.le⟩, q⟩) J H1 h
end
end Dn

namespace Dn
open PySem PySem.W PySem.Spec PyProof.Rows L2 TL Bits An
section
variable {K : Frag} {w0 w w1 : Wd} {W : WX} {X : Cx} {ρ : Rh} {σ : L2.St} {pins : List (Addr × Obj)} {s : Shared} {pos p : Pos}
theorem atI_rep {G : Gd} {ds : List D} {vs : List V} {i : Int} {d : D} (r : RepL K G ds vs) (h : atI ds i = some d) : ∃ v, atI vs i = some v ∧ Rep K G d v := by
  unfold atI at h ⊢
  rw [r.length]
  cases e : ixN ds.length i with
  | none => rw [e] at h; cases h
  | some j =>
    rw [e] at h
    exact r.get h
def orFail {α : Type} : Option α → M α
  | some a => ret a
  | none => fail
theorem mono_orFail {α : Type} {o : Option α} : Mono (orFail o) := by cases o; exact mono_fail; exact mono_ret
def ixD : D → D → M D
  | .lst xs, .int i => orFail (atI xs i)
  | .tup xs, .int i => orFail (atI xs i)
  | .str z, .int i => need (z.length ≤ sizeLine) (orFail ((atI z.cps.toList i).map fun c => .str ⟨#[c]⟩))
  | .scr xs, .int i => orFail (atI xs i)
  | .src, .int i => need (0 ≤ i ∧ i < 3) (fun S Q _ => ∀ k : Int, Q (.int k) S)
  | _, _ => fail
theorem J2.ofIx {r : R2} {a b : Expr} {da db : D} {m : M D} (hr : IxR X r) (hs : PlainIx b) (hm : Mono m) (h : ∀ (σ : L2.St) (ρ : Rh) (w : Wd) (x y : V) (Q : VK), At K w0 w ρ σ → Rep K w.toGd da x → Rep K w.toGd db y → Run K w0 W (Rep K) σ ρ w m Q → r x y w.H Q) : J2 K w0 W X (subscriptTail a b) da db m :=
  ⟨hm, fun pins s σ ρ w x y v u Q I at_ rx ry ra rb q => hr a b pins s σ w.H x y v u Q I rx ry (h σ ρ w x y Q at_ ra rb q) (hs _ _)⟩
theorem j_ix {a b : Expr} (hs : PlainIx b) (hK : X.K = K := by rfl) : J2A K w0 W X (subscriptTail a b) ixD := fun da db => by
  subst hK
  cases da <;> first | exact J2.no | skip
  case lst xs =>
    cases db <;> first | exact J2.no | skip
    rename_i i
    refine J2.ofIx (m := orFail (atI xs i)) ix_list hs mono_orFail fun σ ρ w x y Q at_ ra rb r => ?_
    obtain ⟨p, vs, rfl, h1, h2, _⟩ := rep_lst at_.st.ok ra
    unfold Rep at rb; subst rb
    cases e : atI xs i with
    | none => rw [e] at r; exact r.elim
    | some d =>
      rw [e] at r
      obtain ⟨v, h3, h4⟩ := atI_rep h2 e
      exact ⟨p, vs, i, v, rfl, rfl, h1, h3, Run.fin at_ r h4⟩
  case scr xs =>
    cases db <;> first | exact J2.no | skip
    rename_i i
    refine J2.ofIx (m := orFail (atI xs i)) ix_list hs mono_orFail fun σ ρ w x y Q at_ ra rb r => ?_
    obtain ⟨p, vs, rfl, h1, h2⟩ := rep_scr at_.st.ok ra
    unfold Rep at rb; subst rb
    cases e : atI xs i with
    | none => rw [e] at r; exact r.elim
    | some d =>
      rw [e] at r
      obtain ⟨v, h3, h4⟩ := atI_rep h2 e
      exact ⟨p, vs, i, v, rfl, rfl, h1, h3, Run.fin at_ r h4⟩
  case tup xs =>
    cases db <;> first | exact J2.no | skip
    rename_i i
    refine J2.ofIx (m := orFail (atI xs i)) ix_tup hs mono_orFail fun σ ρ w x y Q at_ ra rb r => ?_
    obtain ⟨p, vs, rfl, h1, h2⟩ := rep_tup at_.st.ok ra
    unfold Rep at rb; subst rb
    cases e : atI xs i with
    | none => rw [e] at r; exact r.elim
    | some d =>
      rw [e] at r
      obtain ⟨v, h3, h4⟩ := atI_rep h2 e
      exact ⟨p, vs, i, v, rfl, rfl, h1, h3, Run.fin at_ r h4⟩
  case str z =>
    cases db <;> first | exact J2.no | skip
    rename_i i
    refine J2.ofIx (m := need (z.length ≤ sizeLine) (orFail ((atI z.cps.toList i).map fun c => .str ⟨#[c]⟩))) ix_str hs (mono_need mono_orFail) fun σ ρ w x y Q at_ ra rb r => ?_
    unfold Rep at ra rb; subst ra rb
    obtain ⟨hz, r⟩ := r
    cases e : atI z.cps.toList i with
    | none => rw [e] at r; exact r.elim
    | some c =>
      rw [e] at r
      exact ⟨z, i, c, rfl, rfl, hz, e, Run.fin at_ r rStr⟩
  case src =>
    cases db <;> first | exact J2.no | skip
    rename_i i
    refine J2.ofIx (m := need (0 ≤ i ∧ i < 3) (fun S Q _ => ∀ k : Int, Q (.int k) S)) x_src hs (mono_need fun S Q Q' E E' q e h k => q _ _ (h k)) fun σ ρ w x y Q at_ ra rb r => ?_
    unfold Rep at ra rb; subst rb
    obtain ⟨a, rfl, hS⟩ := ra
    exact ⟨a, i, rfl, rfl, at_.st.ok.le _ _ hS, r.1, fun k => r.2 k w (.int k) rfl at_.here rInt⟩
theorem de_ix {a b : Expr} {ma mb : Rh → M D} {f : D → D → M D} (hf : J2A K w0 W X (subscriptTail a b) f) (ha : DE K w0 W X a ma) (hb : DE K w0 W X b mb) : DE K w0 W X (.Subscript a b pos) (eBin f ma mb) :=
  .of (mono_bin (fun _ _ => (hf _ _).mono) ha.mono hb.mono) fun _ _ _ _ _ _ I at_ r => Subscript_ (two_go hf ha hb I at_ r)
def cutD (xs : List D) (lo hi : Option Int) : List D := (xs.drop (HT.sIx xs.length 0 lo)).take (HT.sIx xs.length xs.length hi - HT.sIx xs.length 0 lo)
theorem cut_rep {G : Gd} {ds : List D} {vs : List V} (r : RepL K G ds vs) (lo hi : Option Int) : RepL K G (cutD ds lo hi) (cutV vs lo hi) := by
  unfold cutD cutV
  rw [r.length]
  exact (r.drop _).take _
def slD (x : D) (lo hi : Option Int) : M D := match x with
  | .lst xs => ret (.lst (cutD xs lo hi))
  | .tup xs => ret (.tup (cutD xs lo hi))
  | .str z => need (z.length ≤ sizeLine) (ret (.str (cutS z lo hi)))
  | .scr xs => ret (.lst (cutD xs lo hi))
  | _ => fail
theorem mono_slD {x : D} {lo hi : Option Int} : Mono (slD x lo hi) := by cases x <;> first | exact mono_ret | exact mono_need mono_ret | exact mono_fail
structure DO (K : Frag) (w0 : Wd) (W : WX) (X : Cx) (e : Option Expr) (m : Rh → M (Option Int)) : Prop where
  mono : ∀ ρ, Mono (m ρ)
  run : ∀ (pins : List (Addr × Obj)) (s : Shared) (σ : L2.St) (ρ : Rh) (w : Wd) (Qd : Option Int → Sv → Prop) (Ed : Xn → Sv → Prop), Inv X pins σ w.H s → At K w0 w ρ σ → m ρ w.S Qd Ed → ExcE K w0 W w ρ σ Ed →
    wpAny (model X.prog X.w) X.A (evalPart e X.env) (fun u s' => ∃ o w', Inv X pins σ w'.H s' ∧ Nx K w0 w w' ρ σ ∧ IsPart u o ∧ Qd o w'.S) X.xe s
def oNone : Rh → M (Option Int) := fun _ => ret none
def asI : D → M (Option Int)
  | .int i => ret (some i)
  | _ => fail
theorem do_none : DO K w0 W X none oNone := ⟨fun _ => mono_ret, fun pins s σ ρ w Qd Ed I at_ r hE => by
  rw [evalPart_none]
  exact wpAny_pure ⟨none, w, I, at_.here, .none, r⟩⟩
theorem mono_asI {d : D} : Mono (asI d) := by cases d <;> first | exact mono_ret | exact mono_fail
theorem do_some {e : Expr} {m : Rh → M D} (h : DE K w0 W X e m) : DO K w0 W X (some e) (fun ρ => bind (m ρ) asI) := ⟨fun ρ => mono_bind (h.mono ρ) fun _ => mono_asI, fun pins s σ ρ w Qd Ed I at_ r hE => by
  rw [evalPart_some]
  refine thn (h.raw I at_ r hE) ?_
  rintro u s1 ⟨v, d, w1, I1, n1, rv, rd, q⟩
  cases d <;> first | exact q.elim | skip
  rename_i i
  unfold Rep at rd; subst rd
  obtain ⟨t, rfl⟩ := rv
  exact ⟨some i, w1, I1, n1, .int i t, q⟩⟩
def eSl (a : Rh → M D) (lo hi : Rh → M (Option Int)) : Rh → M D := fun ρ => bind (a ρ) fun x => bind (lo ρ) fun l => bind (hi ρ) fun h => slD x l h
theorem Run.need {c : Prop} {m : M D} {Q : VK} (h : Run K w0 W (Rep K) σ ρ w (need c m) Q) : c ∧ Run K w0 W (Rep K) σ ρ w m Q := h
theorem run_of {Qd : D → Sv → Prop} {Ed : Xn → Sv → Prop} {m : M D} (hm : Mono m) (r : m w.S Qd Ed) (hE : ExcE K w0 W w ρ σ Ed) : Run K w0 W (Rep K) σ ρ w m (fun v H' => ∃ d w', w'.H = H' ∧ Nx K w0 w w' ρ σ ∧ Rep K w'.toGd d v ∧ Qd d w'.S) :=
  hm _ _ _ _ _ (fun d S' q w' v e n rr => ⟨d, w', rfl, n, rr, by rw [e]; exact q⟩) (fun x S' q w' c d e n rx => hE x w' c d (by rw [e]; exact q) n rx) r
theorem ep_got {Qd : D → Sv → Prop} {u : Value} {s' : Shared} (h : EP X pins σ (fun v H' => ∃ d w', w'.H = H' ∧ Nx K w0 w w' ρ σ ∧ Rep K w'.toGd d v ∧ Qd d w'.S) u s') : GotE K w0 X pins σ ρ w Qd u s' := by
  obtain ⟨v, H', I', rv, d, w', rfl, n, rr, q⟩ := h
  exact ⟨v, d, w', I', n, rv, rr, q⟩
theorem de_sl {e : Expr} {lo hi : Option Expr} {m : Rh → M D} {ml mh : Rh → M (Option Int)} {p2 : Pos} (he : DE K w0 W X e m) (hl : DO K w0 W X lo ml) (hh : DO K w0 W X hi mh) (hK : X.K = K := by rfl) : DE K w0 W X (.Subscript e (.Slice lo hi none p2) pos) (eSl m ml mh) := by
  subst hK
  refine .mk' (fun ρ => mono_bind (he.mono ρ) fun _ => mono_bind (hl.mono ρ) fun _ => mono_bind (hh.mono ρ) fun _ => mono_slD) fun pins s σ ρ w Qd Ed I at_ r hE => ?_
  refine Subscript_ (thn (he.raw I at_ r hE) ?_)
  rintro v s1 ⟨x, d, w1, I1, n1, rx, rd, q1⟩
  refine wpAny_Slice (thn (hl.run pins s1 σ ρ w1 _ _ I1 n1.at_ q1 (hE.nw n1)) ?_)
  rintro vl s2 ⟨l, w2, I2, n2, pl, q2⟩
  have n12 := n1.trans n2
  refine thn (hh.run pins s2 σ ρ w2 _ _ I2 n2.at_ q2 (hE.nw n12)) ?_
  rintro vu s3 ⟨u, w3, I3, n3, pu, q3⟩
  have n123 := n12.trans n3
  rw [evalPart_none]
  refine wpAny_pure ?_
  have I4 : Inv X pins σ w3.H { s3 with heap := s3.heap.push { cls := .type "slice", data := .fields #[vl, vu, .none] } } := I3.kept (t' := s3.toks) fun b ob q => Heap.get?_push_of_some _ q
  have hr : SlR X (fun x lo hi H Q => rSlL X.K x lo hi H Q ∨ (L2.rSlA X.K x lo hi H Q ∨ rSlS x lo hi H Q)) := sl_list.or (sl_tupA.or sl_str)
  have rd3 := Rep.le (n2.trans n3).le d rd
  have R := run_of mono_slD q3 (hE.nw n123)
  have hq : rSlL X.K x l u w3.H (fun v H' => ∃ d w', w'.H = H' ∧ Nx X.K w0 w3 w' ρ σ ∧ Rep X.K w'.toGd d v ∧ Qd d w'.S) ∨ (L2.rSlA X.K x l u w3.H (fun v H' => ∃ d w', w'.H = H' ∧ Nx X.K w0 w3 w' ρ σ ∧ Rep X.K w'.toGd d v ∧ Qd d w'.S) ∨ rSlS x l u w3.H (fun v H' => ∃ d w', w'.H = H' ∧ Nx X.K w0 w3 w' ρ σ ∧ Rep X.K w'.toGd d v ∧ Qd d w'.S)) := by
    cases d <;> first | exact q3.elim | skip
    case lst xs =>
      obtain ⟨a, vs, rfl, h1, h2, _⟩ := rep_lst n3.at_.st.ok rd3
      exact .inl ⟨a, vs, rfl, h1, fun p hp => Run.new n3.at_ R hp (lst_laid n3.at_.st.ok hp (cut_rep h2 l u))⟩
    case scr xs =>
      obtain ⟨a, vs, rfl, h1, h2⟩ := rep_scr n3.at_.st.ok rd3
      exact .inl ⟨a, vs, rfl, h1, fun p hp => Run.new n3.at_ R hp (lst_laid n3.at_.st.ok hp (cut_rep h2 l u))⟩
    case tup xs =>
      have rd4 := rd3
      obtain ⟨a, vs, rfl, h1, h2⟩ := rep_tup n3.at_.st.ok rd3
      refine .inr (.inl ⟨a, vs, rfl, h1, fun hw => Run.fin n3.at_ R ?_, fun _ p hp => Run.new n3.at_ R hp (tup_laid n3.at_.st.ok hp (cut_rep h2 l u))⟩)
      have e : cutD xs l u = xs := by
        unfold cutD
        have hl := h2.length
        rw [hl] at hw
        rw [hw.1, hw.2, List.drop_zero, Nat.sub_zero, List.take_length]
      rw [e]
      exact rd4
    case str z =>
      unfold Rep at rd3; subst rd3
      obtain ⟨hz, R2⟩ := Run.need R
      exact .inr (.inr ⟨z, rfl, hz, Run.fin n3.at_ R2 rStr⟩)
  obtain ⟨T, id, hT, ht, hg⟩ := hr pins { s3 with heap := s3.heap.push { cls := .type "slice", data := .fields #[vl, vu, .none] } } σ w3.H x v vl vu l u s3.heap.objs.size _ I4 rx (Heap.IsSliceOf.new ..) pl pu hq
  show wpAny (model X.prog X.w) X.A (subscriptTail e (.Slice lo hi none p2) v (.ref s3.heap.objs.size)) _ X.xe { s3 with heap := s3.heap.push { cls := .type "slice", data := .fields #[vl, vu, .none] } }
  exact tail_any (ops := [.ref s3.heap.objs.size, v]) ht hT (thn hg fun _ _ h => (ep_got h).nw n123) (by with_unfolding_all rfl)
def revLD : D → M D
  | .lst xs => ret (.lst xs.reverse)
  | _ => fail
def revSD : D → M D
  | .str z => need (z.length ≤ sizeLine) (ret (.str (revS z)))
  | _ => fail
theorem de_of1 {e e' : Expr} {m : Rh → M D} {k : D → M D} {R : VK → V → Hp → Prop} (he : DE K w0 W X e m) (hk : ∀ d, Mono (k d)) (h : ∀ te, PE X e te → PE X e' (fun σ H Q => te σ H (R Q)))
    (f : ∀ (σ : L2.St) (ρ : Rh) (w : Wd) (v : V) (d : D) (Q : VK), At K w0 w ρ σ → Rep K w.toGd d v → Run K w0 W (Rep K) σ ρ w (k d) Q → R Q v w.H) : DE K w0 W X e' (fun ρ => bind (m ρ) k) := by
  refine ⟨fun ρ => mono_bind (he.mono ρ) hk, PE.imp (h _ he.pe) fun σ H Q hh => ?_⟩
  obtain ⟨w, ρ, rfl, at_, r⟩ := hh
  exact ⟨w, ρ, rfl, at_, Run.bind (he.mono ρ) hk r fun w' v d n rd q => f σ ρ w' v d Q n.at_ rd q⟩
def negD : D → M D
  | .int i => ret (.int (-i))
  | _ => fail
theorem de_neg {e : Expr} {m : Rh → M D} (he : DE K w0 W X e m) : DE K w0 W X (.UnaryOp .USub e pos) (fun ρ => bind (m ρ) negD) := by
  refine de_of1 (R := fun Q x H1 => ∃ i, x = .int i ∧ Q (.int (-i)) H1) he (fun d => by cases d <;> first | exact mono_ret | exact mono_fail) (fun te h => pe_un un_neg h) fun σ ρ w v d Q at_ rd r => ?_
  cases d <;> first | exact r.elim | skip
  unfold Rep at rd; subst rd
  exact ⟨_, rfl, Run.fin at_ r rInt⟩
def isNon : D → Bool
  | .non => true
  | _ => false
theorem rep_non {G : Gd} : ∀ {d : D} {v : V}, Rep K G d v → decide (v = .non) = isNon d := fun {d v} h => by
  cases d <;> unfold Rep at h
  case non => subst h; rfl
  case bl => subst h; rfl
  case int => subst h; rfl
  case str => subst h; rfl
  case byt => subst h; rfl
  case lst => obtain ⟨a, vs, rfl, _⟩ := h; rfl
  case tup => obtain ⟨a, vs, rfl, _⟩ := h; rfl
  case ins => obtain ⟨a, dx, vs, rfl, _⟩ := h; rfl
  case dct => obtain ⟨_, a, rfl, _⟩ := h; rfl
  case scr => obtain ⟨a, vs, rfl, _⟩ := h; rfl
  case src => obtain ⟨a, rfl, _⟩ := h; rfl
  case src1 => obtain ⟨a, rfl, _⟩ := h; rfl
  case cell => obtain ⟨a, _, _, rfl⟩ := h; rfl
  case cls => subst h; rfl
  case ty => subst h; rfl
  case lam => obtain ⟨a, _, rfl, _⟩ := h; rfl
  case xn => obtain ⟨a, _, _, rfl, _⟩ := h; rfl
  case fl => exact h.elim
def isD (neg : Bool) (a b : D) : M D := match b with
  | .non => ret (.bl (xor neg (isNon a)))
  | _ => fail
theorem j_is : J2A K w0 W X (compareOp .Is) (isD false) := fun a b => by
  cases b <;> first | exact J2.no | skip
  refine J2.of (m := ret (.bl (xor false (isNon a)))) op_isN mono_ret fun σ ρ w x y Q at_ ra rb r => ?_
  unfold Rep at rb; subst rb
  refine ⟨rfl, ?_⟩
  rw [rep_non ra]
  rw [Bool.false_xor] at r
  exact Run.fin at_ r rBl
theorem j_isnot : J2A K w0 W X (compareOp .IsNot) (isD true) := fun a b => by
  cases b <;> first | exact J2.no | skip
  refine J2.of (m := ret (.bl (xor true (isNon a)))) op_notN mono_ret fun σ ρ w x y Q at_ ra rb r => ?_
  unfold Rep at rb; subst rb
  refine ⟨rfl, ?_⟩
  rw [rep_non ra]
  rw [Bool.true_xor] at r
  exact Run.fin at_ r rBl
def intsL : List D → Option (List Int)
  | [] => some []
  | .int i :: ds => (intsL ds).map (i :: ·)
  | _ :: _ => none
theorem intsL_rep {G : Gd} : ∀ {ds : List D} {vs : List V} {ns : List Int}, RepL K G ds vs → intsL ds = some ns → vs = ns.map V.int
  | [], _, _, r, e => by unfold RepL at r; subst r; unfold intsL at e; cases e; rfl
  | d :: ds, _, ns, r, e => by
    unfold RepL at r
    obtain ⟨v, vr, rfl, h1, h2⟩ := r
    cases d <;> first | (unfold intsL at e; cases e; done) | skip
    rename_i i
    unfold intsL at e
    cases q : intsL ds with
    | none => rw [q] at e; cases e
    | some ms =>
      rw [q] at e; cases e
      unfold Rep at h1; subst h1
      rw [intsL_rep h2 q]; rfl
def lexI (r : Int → Int → Bool) (z : Nat → Nat → Bool) (ns ms : List Int) : Bool := Ob.lexAt (fun j => decide (ns.getD j 0 = ms.getD j 0)) (fun j => r (ns.getD j 0) (ms.getD j 0)) (z ns.length ms.length) 0 (min ns.length ms.length)
def ordT (r : Int → Int → Bool) (z : Nat → Nat → Bool) (xs ys : List D) : M D := match intsL xs, intsL ys with
  | some ns, some ms => ret (.bl (lexI r z ns ms))
  | _, _ => fail
theorem mono_ordT {r : Int → Int → Bool} {z : Nat → Nat → Bool} {xs ys : List D} : Mono (ordT r z xs ys) := by unfold ordT; split; exact mono_ret; exact mono_fail
def rT_lt (K : Frag) : R2 := fun x y H Q => ∃ (a b : Addr) (ns ms : List Int), x = .ref a ∧ y = .ref b ∧ SqT K H a (ns.map V.int) ∧ SqT K H b (ms.map V.int) ∧ Q (.bl (lexI (fun i j => decide (i < j)) (fun i j => decide (i < j)) ns ms)) H
theorem op_ltTI (hu : X.A.units < cLine) : OpR X (compareOp .Lt) (rT_lt X.K) := by
  intro pins s σ H x y v u Q I rx ry h
  obtain ⟨a, b, ns, ms, rfl, rfl, ha, hb, q⟩ := h
  cases rx
  cases ry
  obtain ⟨its, r1, p1, _⟩ := I.tuple ha
  obtain ⟨its2, r2, p2, _⟩ := I.tuple hb
  have i1 : IntsAre its ns := Vals.ints r1
  have i2 : IntsAre its2 ms := Vals.ints r2
  have e1 : its.toArray.size = ns.length := by rw [List.size_toArray]; exact i1.length
  have e2 : its2.toArray.size = ms.length := by rw [List.size_toArray]; exact i2.length
  have at1 : ∀ j (h1 : j < its.toArray.size), ∃ t, its.toArray[j] = .int (ns.getD j 0) t := fun j h1 => PyProof.Rows.IntsAre.int_at i1 _ _ (by simp at h1; simp [h1])
  have at2 : ∀ j (h1 : j < its2.toArray.size), ∃ t, its2.toArray[j] = .int (ms.getD j 0) t := fun j h1 => PyProof.Rows.IntsAre.int_at i2 _ _ (by simp at h1; simp [h1])
  have R := Ob.RcOp.tuples_lt (A := X.A) (s := s) (e := fun j => decide (ns.getD j 0 = ms.getD j 0)) (r := fun j => (fun i j => decide (i < j)) (ns.getD j 0) (ms.getD j 0)) p1 p2 hu (fun j h1 h2 => by
    obtain ⟨t, et⟩ := at1 j h1
    obtain ⟨t', et'⟩ := at2 j h2
    rw [et, et']
    have z : (ns.getD j 0 == ms.getD j 0) = decide (ns.getD j 0 = ms.getD j 0) := by
      by_cases q : ns.getD j 0 = ms.getD j 0
      · rw [decide_eq_true q]; exact beq_iff_eq.mpr q
      · rw [decide_eq_false q]; exact beq_eq_false_iff_ne.mpr q
    rw [← z]
    exact SeqAt.EqAt.int_int _ _ _ _) (fun j h1 h2 _ => by
    obtain ⟨t, et⟩ := at1 j h1
    obtain ⟨t', et'⟩ := at2 j h2
    rw [et, et']
    exact Ob.RcOp.lt_int _ _ _ _)
  rw [e1, e2] at R
  exact R _ _ _ _ ⟨.bl _, H, I, rfl, q⟩
def ltD : D → D → M D
  | .int i, .int j => ret (.bl ((fun i j => decide (i < j)) i j))
  | .tup xs, .tup ys => ordT (fun i j => decide (i < j)) (fun i j => decide (i < j)) xs ys
  | _, _ => fail
theorem j_lt (hu : X.A.units + 64 < cLine) (hK : X.K = K := by rfl) : J2A K w0 W X (compareOp .Lt) ltD := fun a b => by
  subst hK
  cases a <;> first | exact J2.no | skip
  case int i => cases b <;> first | exact J2.no | exact j2_intB op_lt
  case tup xs =>
    cases b <;> first | exact J2.no | skip
    rename_i ys
    refine J2.of (m := ordT (fun i j => decide (i < j)) (fun i j => decide (i < j)) xs ys) (op_ltTI (by omega)) mono_ordT fun σ ρ w x y Q at_ ra rb r => ?_
    obtain ⟨a, vs, rfl, h1, h2⟩ := rep_tup at_.st.ok ra
    obtain ⟨b, us, rfl, h3, h4⟩ := rep_tup at_.st.ok rb
    unfold ordT at r
    split at r
    · rename_i ns ms e1 e2
      rw [intsL_rep h2 e1] at h1
      rw [intsL_rep h4 e2] at h3
      exact ⟨a, b, ns, ms, rfl, rfl, h1, h3, Run.fin at_ r rBl⟩
    · exact r.elim
def rT_le (K : Frag) : R2 := fun x y H Q => ∃ (a b : Addr) (ns ms : List Int), x = .ref a ∧ y = .ref b ∧ SqT K H a (ns.map V.int) ∧ SqT K H b (ms.map V.int) ∧ Q (.bl (lexI (fun i j => decide (i ≤ j)) (fun i j => decide (i ≤ j)) ns ms)) H
theorem op_leTI (hu : X.A.units < cLine) : OpR X (compareOp .LtE) (rT_le X.K) := by
  intro pins s σ H x y v u Q I rx ry h
  obtain ⟨a, b, ns, ms, rfl, rfl, ha, hb, q⟩ := h
  cases rx
  cases ry
  obtain ⟨its, r1, p1, _⟩ := I.tuple ha
  obtain ⟨its2, r2, p2, _⟩ := I.tuple hb
  have i1 : IntsAre its ns := Vals.ints r1
  have i2 : IntsAre its2 ms := Vals.ints r2
  have e1 : its.toArray.size = ns.length := by rw [List.size_toArray]; exact i1.length
  have e2 : its2.toArray.size = ms.length := by rw [List.size_toArray]; exact i2.length
  have at1 : ∀ j (h1 : j < its.toArray.size), ∃ t, its.toArray[j] = .int (ns.getD j 0) t := fun j h1 => PyProof.Rows.IntsAre.int_at i1 _ _ (by simp at h1; simp [h1])
  have at2 : ∀ j (h1 : j < its2.toArray.size), ∃ t, its2.toArray[j] = .int (ms.getD j 0) t := fun j h1 => PyProof.Rows.IntsAre.int_at i2 _ _ (by simp at h1; simp [h1])
  have R := Ob.RcOp.tuples_le (A := X.A) (s := s) (e := fun j => decide (ns.getD j 0 = ms.getD j 0)) (r := fun j => (fun i j => decide (i ≤ j)) (ns.getD j 0) (ms.getD j 0)) p1 p2 hu (fun j h1 h2 => by
    obtain ⟨t, et⟩ := at1 j h1
    obtain ⟨t', et'⟩ := at2 j h2
    rw [et, et']
    have z : (ns.getD j 0 == ms.getD j 0) = decide (ns.getD j 0 = ms.getD j 0) := by
      by_cases q : ns.getD j 0 = ms.getD j 0
      · rw [decide_eq_true q]; exact beq_iff_eq.mpr q
      · rw [decide_eq_false q]; exact beq_eq_false_iff_ne.mpr q
    rw [← z]
    exact SeqAt.EqAt.int_int _ _ _ _) (fun j h1 h2 _ => by
    obtain ⟨t, et⟩ := at1 j h1
    obtain ⟨t', et'⟩ := at2 j h2
    rw [et, et']
    exact Ob.RcOp.le_int _ _ _ _)
  rw [e1, e2] at R
  exact R _ _ _ _ ⟨.bl _, H, I, rfl, q⟩
def leD : D → D → M D
  | .int i, .int j => ret (.bl ((fun i j => decide (i ≤ j)) i j))
  | .tup xs, .tup ys => ordT (fun i j => decide (i ≤ j)) (fun i j => decide (i ≤ j)) xs ys
  | _, _ => fail
theorem j_le (hu : X.A.units + 64 < cLine) (hK : X.K = K := by rfl) : J2A K w0 W X (compareOp .LtE) leD := fun a b => by
  subst hK
  cases a <;> first | exact J2.no | skip
  case int i => cases b <;> first | exact J2.no | exact j2_intB op_le
  case tup xs =>
    cases b <;> first | exact J2.no | skip
    rename_i ys
    refine J2.of (m := ordT (fun i j => decide (i ≤ j)) (fun i j => decide (i ≤ j)) xs ys) (op_leTI (by omega)) mono_ordT fun σ ρ w x y Q at_ ra rb r => ?_
    obtain ⟨a, vs, rfl, h1, h2⟩ := rep_tup at_.st.ok ra
    obtain ⟨b, us, rfl, h3, h4⟩ := rep_tup at_.st.ok rb
    unfold ordT at r
    split at r
    · rename_i ns ms e1 e2
      rw [intsL_rep h2 e1] at h1
      rw [intsL_rep h4 e2] at h3
      exact ⟨a, b, ns, ms, rfl, rfl, h1, h3, Run.fin at_ r rBl⟩
    · exact r.elim
def rT_gt (K : Frag) : R2 := fun x y H Q => ∃ (a b : Addr) (ns ms : List Int), x = .ref a ∧ y = .ref b ∧ SqT K H a (ns.map V.int) ∧ SqT K H b (ms.map V.int) ∧ Q (.bl (lexI (fun i j => decide (j < i)) (fun i j => decide (j < i)) ns ms)) H
theorem op_gtTI (hu : X.A.units < cLine) : OpR X (compareOp .Gt) (rT_gt X.K) := by
  intro pins s σ H x y v u Q I rx ry h
  obtain ⟨a, b, ns, ms, rfl, rfl, ha, hb, q⟩ := h
  cases rx
  cases ry
  obtain ⟨its, r1, p1, _⟩ := I.tuple ha
  obtain ⟨its2, r2, p2, _⟩ := I.tuple hb
  have i1 : IntsAre its ns := Vals.ints r1
  have i2 : IntsAre its2 ms := Vals.ints r2
  have e1 : its.toArray.size = ns.length := by rw [List.size_toArray]; exact i1.length
  have e2 : its2.toArray.size = ms.length := by rw [List.size_toArray]; exact i2.length
  have at1 : ∀ j (h1 : j < its.toArray.size), ∃ t, its.toArray[j] = .int (ns.getD j 0) t := fun j h1 => PyProof.Rows.IntsAre.int_at i1 _ _ (by simp at h1; simp [h1])
  have at2 : ∀ j (h1 : j < its2.toArray.size), ∃ t, its2.toArray[j] = .int (ms.getD j 0) t := fun j h1 => PyProof.Rows.IntsAre.int_at i2 _ _ (by simp at h1; simp [h1])
  have R := Ob.RcOp.tuples_gt (A := X.A) (s := s) (e := fun j => decide (ns.getD j 0 = ms.getD j 0)) (r := fun j => (fun i j => decide (j < i)) (ns.getD j 0) (ms.getD j 0)) p1 p2 hu (fun j h1 h2 => by
    obtain ⟨t, et⟩ := at1 j h1
    obtain ⟨t', et'⟩ := at2 j h2
    rw [et, et']
    have z : (ns.getD j 0 == ms.getD j 0) = decide (ns.getD j 0 = ms.getD j 0) := by
      by_cases q : ns.getD j 0 = ms.getD j 0
      · rw [decide_eq_true q]; exact beq_iff_eq.mpr q
      · rw [decide_eq_false q]; exact beq_eq_false_iff_ne.mpr q
    rw [← z]
    exact SeqAt.EqAt.int_int _ _ _ _) (fun j h1 h2 _ => by
    obtain ⟨t, et⟩ := at1 j h1
    obtain ⟨t', et'⟩ := at2 j h2
    rw [et, et']
    exact Ob.RcOp.gt_int _ _ _ _)
  rw [e1, e2] at R
  exact R _ _ _ _ ⟨.bl _, H, I, rfl, q⟩
def gtD : D → D → M D
  | .int i, .int j => ret (.bl ((fun i j => decide (j < i)) i j))
  | .tup xs, .tup ys => ordT (fun i j => decide (j < i)) (fun i j => decide (j < i)) xs ys
  | _, _ => fail
theorem j_gt (hu : X.A.units + 64 < cLine) (hK : X.K = K := by rfl) : J2A K w0 W X (compareOp .Gt) gtD := fun a b => by
  subst hK
  cases a <;> first | exact J2.no | skip
  case int i => cases b <;> first | exact J2.no | exact j2_intB op_gt
  case tup xs =>
    cases b <;> first | exact J2.no | skip
    rename_i ys
    refine J2.of (m := ordT (fun i j => decide (j < i)) (fun i j => decide (j < i)) xs ys) (op_gtTI (by omega)) mono_ordT fun σ ρ w x y Q at_ ra rb r => ?_
    obtain ⟨a, vs, rfl, h1, h2⟩ := rep_tup at_.st.ok ra
    obtain ⟨b, us, rfl, h3, h4⟩ := rep_tup at_.st.ok rb
    unfold ordT at r
    split at r
    · rename_i ns ms e1 e2
      rw [intsL_rep h2 e1] at h1
      rw [intsL_rep h4 e2] at h3
      exact ⟨a, b, ns, ms, rfl, rfl, h1, h3, Run.fin at_ r rBl⟩
    · exact r.elim
def rT_ge (K : Frag) : R2 := fun x y H Q => ∃ (a b : Addr) (ns ms : List Int), x = .ref a ∧ y = .ref b ∧ SqT K H a (ns.map V.int) ∧ SqT K H b (ms.map V.int) ∧ Q (.bl (lexI (fun i j => decide (j ≤ i)) (fun i j => decide (j ≤ i)) ns ms)) H
theorem op_geTI (hu : X.A.units < cLine) : OpR X (compareOp .GtE) (rT_ge X.K) := by
  intro pins s σ H x y v u Q I rx ry h
  obtain ⟨a, b, ns, ms, rfl, rfl, ha, hb, q⟩ := h
  cases rx
  cases ry
  obtain ⟨its, r1, p1, _⟩ := I.tuple ha
  obtain ⟨its2, r2, p2, _⟩ := I.tuple hb
  have i1 : IntsAre its ns := Vals.ints r1
  have i2 : IntsAre its2 ms := Vals.ints r2
  have e1 : its.toArray.size = ns.length := by rw [List.size_toArray]; exact i1.length
  have e2 : its2.toArray.size = ms.length := by rw [List.size_toArray]; exact i2.length
  have at1 : ∀ j (h1 : j < its.toArray.size), ∃ t, its.toArray[j] = .int (ns.getD j 0) t := fun j h1 => PyProof.Rows.IntsAre.int_at i1 _ _ (by simp at h1; simp [h1])
  have at2 : ∀ j (h1 : j < its2.toArray.size), ∃ t, its2.toArray[j] = .int (ms.getD j 0) t := fun j h1 => PyProof.Rows.IntsAre.int_at i2 _ _ (by simp at h1; simp [h1])
  have R := Ob.RcOp.tuples_ge (A := X.A) (s := s) (e := fun j => decide (ns.getD j 0 = ms.getD j 0)) (r := fun j => (fun i j => decide (j ≤ i)) (ns.getD j 0) (ms.getD j 0)) p1 p2 hu (fun j h1 h2 => by
    obtain ⟨t, et⟩ := at1 j h1
    obtain ⟨t', et'⟩ := at2 j h2
    rw [et, et']
    have z : (ns.getD j 0 == ms.getD j 0) = decide (ns.getD j 0 = ms.getD j 0) := by
      by_cases q : ns.getD j 0 = ms.getD j 0
      · rw [decide_eq_true q]; exact beq_iff_eq.mpr q
      · rw [decide_eq_false q]; exact beq_eq_false_iff_ne.mpr q
    rw [← z]
    exact SeqAt.EqAt.int_int _ _ _ _) (fun j h1 h2 _ => by
    obtain ⟨t, et⟩ := at1 j h1
    obtain ⟨t', et'⟩ := at2 j h2
    rw [et, et']
    exact Ob.RcOp.ge_int _ _ _ _)
  rw [e1, e2] at R
  exact R _ _ _ _ ⟨.bl _, H, I, rfl, q⟩
def geD : D → D → M D
  | .int i, .int j => ret (.bl ((fun i j => decide (j ≤ i)) i j))
  | .tup xs, .tup ys => ordT (fun i j => decide (j ≤ i)) (fun i j => decide (j ≤ i)) xs ys
  | _, _ => fail
theorem j_ge (hu : X.A.units + 64 < cLine) (hK : X.K = K := by rfl) : J2A K w0 W X (compareOp .GtE) geD := fun a b => by
  subst hK
  cases a <;> first | exact J2.no | skip
  case int i => cases b <;> first | exact J2.no | exact j2_intB op_ge
  case tup xs =>
    cases b <;> first | exact J2.no | skip
    rename_i ys
    refine J2.of (m := ordT (fun i j => decide (j ≤ i)) (fun i j => decide (j ≤ i)) xs ys) (op_geTI (by omega)) mono_ordT fun σ ρ w x y Q at_ ra rb r => ?_
    obtain ⟨a, vs, rfl, h1, h2⟩ := rep_tup at_.st.ok ra
    obtain ⟨b, us, rfl, h3, h4⟩ := rep_tup at_.st.ok rb
    unfold ordT at r
    split at r
    · rename_i ns ms e1 e2
      rw [intsL_rep h2 e1] at h1
      rw [intsL_rep h4 e2] at h3
      exact ⟨a, b, ns, ms, rfl, rfl, h1, h3, Run.fin at_ r rBl⟩
    · exact r.elim
end
end Dn

namespace Dn
open PySem PySem.W PySem.Spec PyProof.Rows L2 TL Bits An
def isT (t n : String) : Bool := t == n || (t == "bool" && n == "int")
theorem kitB_all : (btys.all fun t => btys.all fun n => decide (L2.kitB t n = some (isT t n))) = true := by decide +kernel
theorem kitB_of {t n : String} (h1 : t ∈ btys) (h2 : n ∈ btys) : L2.kitB t n = some (isT t n) :=
  of_decide_eq_true (List.all_eq_true.mp (List.all_eq_true.mp kitB_all t h1) n h2)
structure KitOk (K : Frag) (cs : List Str) : Prop where
  ty : ∀ c ∈ cs, TyI K (He.ga K c)
  oo : ∀ c ∈ cs, ∀ c' ∈ cs, PySem.W.kitOne K (.ref (He.ga K c)) (.ref (He.ga K c')) = some (c == c')
  bo : ∀ t ∈ btys, ∀ c ∈ cs, PySem.W.kitOne K (.type t) (.ref (He.ga K c)) = some false
  ob : ∀ c ∈ cs, ∀ t ∈ btys, PySem.W.kitOne K (.ref (He.ga K c)) (.type t) = some false
theorem kitsB_ok {K : Frag} {cs : List Str} (h : kitsB K cs = true) : KitOk K cs := by
  have hh := List.all_eq_true.mp h
  refine ⟨fun c hc => tyB_ok (He.ba (hh c hc)).1, fun c hc c' hc' => ?_, fun t ht c hc => ?_, fun c hc t ht => ?_⟩
  · exact of_decide_eq_true (List.all_eq_true.mp (He.ba (He.ba (hh c hc)).2).1 c' hc')
  · exact of_decide_eq_true (He.ba (List.all_eq_true.mp (He.ba (He.ba (hh c hc)).2).2 t ht)).1
  · exact of_decide_eq_true (He.ba (List.all_eq_true.mp (He.ba (He.ba (hh c hc)).2).2 t ht)).2
def tyN : D → Option String
  | .non => some "NoneType"
  | .bl _ => some "bool"
  | .int _ => some "int"
  | .str _ => some "str"
  | .byt _ => some "bytes"
  | .lst _ => some "list"
  | .tup _ => some "tuple"
  | .dct _ _ => some "dict"
  | _ => none
def clsN : D → Option Str
  | .ins c _ _ => some c
  | .cell _ => some "Book"
  | _ => none
def tyOfD (cs : List Str) (x : D) : Option (Sum String Str) := match clsN x with
  | some c => if cs.contains c = true then some (.inr c) else none
  | none => (tyN x).map .inl
def isi0 (cs : List Str) (t : Sum String Str) (c : D) : Option Bool := match c with
  | .cls cc => if cs.contains cc = true then some (match t with
    | .inr cx => cx == cc
    | .inl _ => false) else none
  | .ty n => if btys.contains n = true then some (match t with
    | .inr _ => false
    | .inl m => isT m n) else none
  | _ => none
def isiL (cs : List Str) (t : Sum String Str) : List D → Option Bool
  | [] => some false
  | c :: r => (isi0 cs t c).bind fun a => (isiL cs t r).bind fun b => some (a || b)
def isiV (cs : List Str) (t : Sum String Str) (c : D) : Option Bool := match c with
  | .tup ds => isiL cs t ds
  | c => isi0 cs t c
def isiD (cs : List Str) : List D → M D
  | [x, c] => orFail ((tyOfD cs x).bind fun t => (isiV cs t c).map .bl)
  | _ => fail
section
variable {K : Frag} {w0 w w1 : Wd} {W : WX} {X : Cx} {ρ : Rh} {σ : L2.St} {pins : List (Addr × Obj)} {s : Shared} {pos p : Pos}
def vTy (K : Frag) : Sum String Str → Value
  | .inl n => .type n
  | .inr c => .ref (He.ga K c)
theorem tyN_mem {x : D} {n : String} (h : tyN x = some n) : n ∈ btys := by
  cases x <;> first | (cases h; done) | (cases h; decide)
theorem rep_ty {cs : List Str} {x : D} {v : V} {t : Sum String Str} (kt : KitOk K cs) (ok : Wok K w) (r : Rep K w.toGd x v) (h : tyOfD cs x = some t) : TyX K w.H v (vTy K t) ∧ (∀ n, t = .inl n → n ∈ btys) ∧ (∀ c, t = .inr c → c ∈ cs) := by
  unfold tyOfD at h
  cases x <;> simp only [clsN, tyN, Option.map_some, Option.map_none] at h <;> first | (cases h; done) | skip
  case non => cases h; unfold Rep at r; subst r; exact ⟨.base .non, fun n e => by cases e; decide, fun _ e => by cases e⟩
  case bl => cases h; unfold Rep at r; subst r; exact ⟨.base (.bl _), fun n e => by cases e; decide, fun _ e => by cases e⟩
  case int => cases h; unfold Rep at r; subst r; exact ⟨.base (.int _), fun n e => by cases e; decide, fun _ e => by cases e⟩
  case str => cases h; unfold Rep at r; subst r; exact ⟨.base (.str _), fun n e => by cases e; decide, fun _ e => by cases e⟩
  case byt => cases h; unfold Rep at r; subst r; exact ⟨.byt _, fun n e => by cases e; decide, fun _ e => by cases e⟩
  case lst =>
    cases h
    obtain ⟨a, vs, rfl, _, _, hr⟩ := rep_lst ok r
    refine ⟨?_, fun n e => by cases e; decide, fun _ e => by cases e⟩
    rcases hr with hr | ⟨o, hr⟩
    · exact .base (.lst hr)
    · exact .base (.frz hr)
  case tup =>
    cases h
    obtain ⟨a, vs, rfl, hr, _⟩ := rep_tup ok r
    refine ⟨?_, fun n e => by cases e; decide, fun _ e => by cases e⟩
    rcases hr with (hr | ⟨o, hr⟩) | ⟨o, its, n, h1, h2, _⟩
    · exact .base (.tup hr)
    · exact .fTuple hr
    · exact .kTuple h1 h2
  case dct =>
    cases h
    unfold Rep at r
    obtain ⟨_, a, rfl, hr, _⟩ := r
    exact ⟨.base (.dK (ok.le _ _ hr)), fun n e => by cases e; decide, fun _ e => by cases e⟩
  case ins c ns ds =>
    split at h
    · rename_i hc
      cases h
      have hm : c ∈ cs := by simpa using hc
      obtain ⟨a, dx, vs, rfl, ea, _⟩ := rep_ins ok r
      exact ⟨(kt.ty c hm).tx ea, fun n e => (by cases e), fun c' e => (by cases e; exact hm)⟩
    · cases h
  case cell i =>
    split at h
    · rename_i hc
      cases h
      have hm : ("Book" : Str) ∈ cs := by simpa using hc
      unfold Rep at r
      obtain ⟨q, h1, hq, rfl⟩ := r
      obtain ⟨cl, h2⟩ : ∃ c, w.S[i]? = some c := by
        have hl := (List.getElem?_eq_some_iff.mp h1).1
        rw [ok.len] at hl
        exact ⟨w.S[i], by simp [hl]⟩
      obtain ⟨h3, _⟩ := ok.cell i q cl h1 h2
      cases cl
      case tb => exact absurd h3.2.1.symm hq
      case bk =>
        obtain ⟨dx, ea, _⟩ := h3
        exact ⟨(kt.ty _ hm).tx ea, fun n e => (by cases e), fun c' e => (by cases e; exact hm)⟩
      obtain ⟨dx, u, ea, _⟩ := h3
      exact ⟨(kt.ty _ hm).tx ea, fun n e => (by cases e), fun c' e => (by cases e; exact hm)⟩
    · cases h
theorem isi0_ok {cs : List Str} {t : Sum String Str} {c : D} {v : V} {b : Bool} {G : Gd} (kt : KitOk K cs) (h1 : ∀ n, t = .inl n → n ∈ btys) (h2 : ∀ c, t = .inr c → c ∈ cs) (r : Rep K G c v) (h : isi0 cs t c = some b) : ∃ u, ClsV v u ∧ PySem.W.kitOne K (vTy K t) u = some b := by
  cases c <;> first | (cases h; done) | skip
  case cls cc =>
    unfold isi0 at h
    simp only at h
    split at h
    · rename_i hc
      have hm : cc ∈ cs := by simpa using hc
      unfold Rep at r; subst r
      refine ⟨_, .own _, ?_⟩
      cases t with
      | inl n => cases h; exact kt.bo n (h1 n rfl) cc hm
      | inr cx => cases h; exact kt.oo cx (h2 cx rfl) cc hm
    · cases h
  case ty n =>
    unfold isi0 at h
    simp only at h
    split at h
    · rename_i hc
      have hm : n ∈ btys := by simpa using hc
      unfold Rep at r; subst r
      refine ⟨_, .ty _, ?_⟩
      cases t with
      | inl m => cases h; exact kit_ty (kitB_of (h1 m rfl) hm)
      | inr cx => cases h; exact kt.ob cx (h2 cx rfl) n hm
    · cases h
theorem isiL_ok {cs : List Str} {t : Sum String Str} {G : Gd} (kt : KitOk K cs) (h1 : ∀ n, t = .inl n → n ∈ btys) (h2 : ∀ c, t = .inr c → c ∈ cs) : ∀ {ds : List D} {vs : List V} {b : Bool}, RepL K G ds vs → isiL cs t ds = some b → ∃ us, Paired ClsV vs us ∧ PySem.W.kitAny K (vTy K t) us = some b
  | [], _, _, r, e => by
    unfold RepL at r; subst r
    cases e
    exact ⟨[], .nil, rfl⟩
  | d :: ds, _, b, r, e => by
    unfold RepL at r
    obtain ⟨v, vr, rfl, r1, r2⟩ := r
    unfold isiL at e
    cases e1 : isi0 cs t d with
    | none => rw [e1] at e; cases e
    | some a =>
      rw [e1] at e
      cases e2 : isiL cs t ds with
      | none => rw [e2] at e; cases e
      | some b2 =>
        rw [e2] at e
        obtain ⟨u, k1, k2⟩ := isi0_ok kt h1 h2 r1 e1
        obtain ⟨us, k3, k4⟩ := isiL_ok kt h1 h2 r2 e2
        have e : (a || b2) = b := Option.some.inj e
        refine ⟨u :: us, .cons k1 k3, kitAny_cons k2 (fun z => ?_) (fun z => ?_)⟩
        · rw [k4, ← e, z]; rfl
        · rw [← e, z]; rfl
structure JC (K : Frag) (w0 : Wd) (W : WX) (X : Cx) (g : Value) (ds : List D) (m : M D) : Prop where
  mono : Mono m
  run : ∀ (pins : List (Addr × Obj)) (s : Shared) (σ : L2.St) (ρ : Rh) (w : Wd) (xs : List V) (us : List Value) (Q : VK), Inv X pins σ w.H s → At K w0 w ρ σ → Vals xs us → RepL K w.toGd ds xs → Run K w0 W (Rep K) σ ρ w m Q →
    wpAny (model X.prog X.w) X.A (call g us) (EP X pins σ Q) X.xe s
theorem JC.of {g : Value} {ds : List D} {m : M D} {r : List V → Hp → VK → Prop} (ho : CallR X g r) (hm : Mono m) (h : ∀ (σ : L2.St) (ρ : Rh) (w : Wd) (xs : List V) (Q : VK), At K w0 w ρ σ → RepL K w.toGd ds xs → Run K w0 W (Rep K) σ ρ w m Q → r xs w.H Q) : JC K w0 W X g ds m :=
  ⟨hm, fun pins s σ ρ w xs us Q I at_ rv rl q => ho pins s σ w.H xs us Q I rv (h σ ρ w xs Q at_ rl q)⟩
theorem JC.no {g : Value} {ds : List D} : JC K w0 W X g ds fail := ⟨mono_fail, fun _ _ _ _ _ _ _ _ _ _ _ _ h => h.elim⟩
abbrev JCA (K : Frag) (w0 : Wd) (W : WX) (X : Cx) (g : Value) (f : List D → M D) : Prop := ∀ ds, JC K w0 W X g ds (f ds)
theorem JC.raw {g : Value} {ds : List D} {m : M D} (h : JC K w0 W X g ds m) {xs : List V} {us : List Value} {Qd : D → Sv → Prop} {Ed : Xn → Sv → Prop} (I : Inv X pins σ w.H s) (at_ : At K w0 w ρ σ) (rv : Vals xs us) (rl : RepL K w.toGd ds xs) (r : m w.S Qd Ed) (hE : ExcE K w0 W w ρ σ Ed) :
    wpAny (model X.prog X.w) X.A (call g us) (GotE K w0 X pins σ ρ w Qd) X.xe s := thn (h.run pins s σ ρ w xs us _ I at_ rv rl (run_of h.mono r hE)) fun _ _ => ep_got
theorem de_callB {x : Str} {id : String} {e : Expr} {es : List Expr} {m : Rh → M (List D)} {f : List D → M D} (hf : JCA K w0 W X (.builtin id) f) (hm : X.mg x = none) (hv : bootBuiltins x = some (.builtin id)) (ha : DA K w0 W X (e :: es) m) (hg : Gl X x := by rfl) (hn : x ≠ "__name__" := by decide) (hdb : (x == ("__debug__" : Str)) = false := by decide)
    (he : starEach (e :: es) X.env = (false, eval e X.env) :: starEach es X.env := by rfl) (hpl : (backTo pos (starEach es X.env)).any (·.1) = false := by rfl) : DE K w0 W X (.Call (.Name x p) (e :: es) [] pos) (fun ρ => bind (m ρ) f) := by
  refine .mk' (fun ρ => mono_bind (ha.mono ρ) fun _ => (hf _).mono) fun pins s σ ρ w Qd Ed I at_ r hE => ?_
  refine wpAny_Call_Name_kw (ld_blt I hg hm hv ?_ hn hdb)
  refine PyProof.Rows.callWith_builtin1 (thn (ha.raw pos I at_ r hE) ?_) he hpl
  rintro us s1 ⟨vs, ds, w1, I1, n1, rv, rds, q⟩
  exact thn ((hf ds).raw I1 n1.at_ rv rds q (hE.nw n1)) fun _ _ g => g.nw n1
theorem de_callT {x : Str} {T : String} {e : Expr} {es : List Expr} {m : Rh → M (List D)} {f : List D → M D} (hf : JCA K w0 W X (.type T) f) (hm : X.mg x = none) (hv : bootBuiltins x = some (.type T)) (ha : DA K w0 W X (e :: es) m) (hg : Gl X x := by rfl) (hn : x ≠ "__name__" := by decide) (hdb : (x == ("__debug__" : Str)) = false := by decide)
    (he : starEach (e :: es) X.env = (false, eval e X.env) :: starEach es X.env := by rfl) (hpl : (backTo pos (starEach es X.env)).any (·.1) = false := by rfl) : DE K w0 W X (.Call (.Name x p) (e :: es) [] pos) (fun ρ => bind (m ρ) f) := by
  refine .mk' (fun ρ => mono_bind (ha.mono ρ) fun _ => (hf _).mono) fun pins s σ ρ w Qd Ed I at_ r hE => ?_
  refine wpAny_Call_Name_kw (ld_blt I hg hm hv ?_ hn hdb)
  refine PyProof.Rows.callWith_type1 (thn (ha.raw pos I at_ r hE) ?_) he hpl
  rintro us s1 ⟨vs, ds, w1, I1, n1, rv, rds, q⟩
  exact thn ((hf ds).raw I1 n1.at_ rv rds q (hE.nw n1)) fun _ _ g => g.nw n1
theorem mono_isi {cs : List Str} {ds : List D} : Mono (isiD cs ds) := by unfold isiD; split; exact mono_orFail; exact mono_fail
def rIsiA (K : Frag) : List V → Hp → VK → Prop := fun xs H Q => ∃ (x : V) (tp : Addr) (cs : List V) (t : Value) (us : List Value) (b : Bool), xs = [x, .ref tp] ∧ SqT K H tp cs ∧ Paired ClsV cs us ∧ TyX K H x t ∧ PySem.W.kitAny K t us = some b ∧ Q (.bl b) H
theorem call_isiA : CallR X (.builtin "isinstance") (rIsiA X.K) := by
  intro pins s σ H xs us Q I r h
  obtain ⟨x, tp, cs, t, ws, b, rfl, hT, k, ty, e, q⟩ := h
  obtain ⟨u1, u2, rfl, r1, r2⟩ := vals2 r
  cases (show u2 = Value.ref tp from r2)
  obtain ⟨P, Z, p, hx⟩ := kit_of I r1 ty
  obtain ⟨its, rv, ⟨o, h1, h2, n, h3⟩, _⟩ := I.tuple hT
  have e3 := ClsV.all k rv
  subst e3
  obtain ⟨oc, od, dt, sl⟩ := o
  simp only at h2 h3
  subst h2 h3
  exact PySem.W.kia_tup Z I.kIn p h1 e hx fun tk => ⟨.bl b, H, I.tok tk, rfl, q⟩
theorem jc_isi {cs : List Str} (kt : KitOk K cs) (hK : X.K = K := by rfl) : JCA K w0 W X (.builtin "isinstance") (isiD cs) := fun ds => by
  subst hK
  match ds with
  | [] => exact JC.no
  | [_] => exact JC.no
  | _ :: _ :: _ :: _ => exact JC.no
  | [x, c] =>
    have hor : CallR X (.builtin "isinstance") (fun xs H Q => rIsi X.K xs H Q ∨ rIsiA X.K xs H Q) := fun pins s σ H xs us Q I r h => h.elim (call_isi pins s σ H xs us Q I r) (call_isiA pins s σ H xs us Q I r)
    refine JC.of hor mono_isi fun σ ρ w xs Q at_ rl r => ?_
    obtain ⟨v, u, rfl, r1, r2⟩ := rl.inv2
    have r : Run X.K w0 W (Rep X.K) σ ρ w (orFail ((tyOfD cs x).bind fun t => (isiV cs t c).map .bl)) Q := r
    cases e1 : tyOfD cs x with
    | none => rw [e1] at r; exact r.elim
    | some t =>
      rw [e1, Option.bind_some] at r
      obtain ⟨h1, h2, h3⟩ := rep_ty kt at_.st.ok r1 e1
      cases e2 : isiV cs t c with
      | none => rw [e2] at r; exact r.elim
      | some b =>
        rw [e2] at r
        have fin : Q (.bl b) w.H := Run.fin at_ r rBl
        clear r
        unfold isiV at e2
        split at e2
        · obtain ⟨a, vs, rfl, h4, h5⟩ := rep_tup at_.st.ok r2
          obtain ⟨us, h6, h7⟩ := isiL_ok kt h2 h3 h5 e2
          exact .inr ⟨v, a, vs, _, us, b, rfl, h4, h6, h1, h7, fin⟩
        · obtain ⟨uu, h6, h7⟩ := isi0_ok kt h2 h3 r2 e2
          exact .inl ⟨v, u, _, uu, b, rfl, h6, h1, h7, fin⟩
def lenD : List D → M D
  | [.lst xs] => ret (.int xs.length)
  | [.scr xs] => ret (.int xs.length)
  | [.tup xs] => ret (.int xs.length)
  | [.str z] => need (z.length ≤ sizeLine) (ret (.int z.length))
  | [.byt b] => need (b.size ≤ sizeLine) (ret (.int b.size))
  | _ => fail
theorem mono_lenD {ds : List D} : Mono (lenD ds) := by unfold lenD; split <;> first | exact mono_ret | exact mono_need mono_ret | exact mono_fail
theorem jc_len (hK : X.K = K := by rfl) : JCA K w0 W X (.builtin "len") lenD := fun ds => by
  subst hK
  refine JC.of call_len mono_lenD fun σ ρ w xs Q at_ rl r => ?_
  unfold lenD at r
  split at r
  · obtain ⟨v, rfl, r1⟩ := rl.inv1
    obtain ⟨a, vs, rfl, h1, h2, _⟩ := rep_lst at_.st.ok r1
    exact ⟨_, _, rfl, .inl ⟨vs, h1, rfl⟩, by rw [h2.length]; exact Run.fin at_ r rInt⟩
  · obtain ⟨v, rfl, r1⟩ := rl.inv1
    obtain ⟨a, vs, rfl, h1, h2⟩ := rep_scr at_.st.ok r1
    exact ⟨_, _, rfl, .inl ⟨vs, h1, rfl⟩, by rw [h2.length]; exact Run.fin at_ r rInt⟩
  · obtain ⟨v, rfl, r1⟩ := rl.inv1
    obtain ⟨a, vs, rfl, h1, h2⟩ := rep_tup at_.st.ok r1
    exact ⟨_, _, rfl, .inr ⟨vs, h1, rfl⟩, by rw [h2.length]; exact Run.fin at_ r rInt⟩
  · obtain ⟨v, rfl, r1⟩ := rl.inv1
    unfold Rep at r1; subst r1
    exact ⟨_, _, rfl, ⟨r.1, rfl⟩, Run.fin at_ (Run.need r).2 rInt⟩
  · obtain ⟨v, rfl, r1⟩ := rl.inv1
    unfold Rep at r1; subst r1
    exact ⟨_, _, rfl, ⟨r.1, rfl⟩, Run.fin at_ (Run.need r).2 rInt⟩
  · exact r.elim
def intD : List D → M D
  | [.int i] => ret (.int i)
  | [.bl b] => ret (.int (if b then 1 else 0))
  | [.str z] => need (z.length ≤ 640) (orFail ((PySem.intText? z).map .int))
  | _ => fail
theorem mono_intD {ds : List D} : Mono (intD ds) := by unfold intD; split <;> first | exact mono_ret | exact mono_need mono_orFail | exact mono_fail
theorem jc_int : JCA K w0 W X (.type "int") intD := fun ds => by
  have hor : CallR X (.type "int") (fun xs H Q => ((∃ i, xs = [.int i] ∧ Q (.int i) H) ∨ ∃ k, xs = [.bl k] ∧ Q (.int (if k then 1 else 0)) H) ∨ (∃ a n, xs = [.str a] ∧ PySem.intText? a = some n ∧ a.length ≤ 640 ∧ Q (.int n) H)) := fun pins s σ H xs us Q I r h => h.elim (call_int1 pins s σ H xs us Q I r) (call_int_str pins s σ H xs us Q I r)
  refine JC.of hor mono_intD fun σ ρ w xs Q at_ rl r => ?_
  unfold intD at r
  split at r
  · obtain ⟨v, rfl, r1⟩ := rl.inv1
    unfold Rep at r1; subst r1
    exact .inl (.inl ⟨_, rfl, Run.fin at_ r rInt⟩)
  · obtain ⟨v, rfl, r1⟩ := rl.inv1
    unfold Rep at r1; subst r1
    exact .inl (.inr ⟨_, rfl, Run.fin at_ r rInt⟩)
  · obtain ⟨v, rfl, r1⟩ := rl.inv1
    unfold Rep at r1; subst r1
    rename_i z
    obtain ⟨hz, r⟩ := Run.need r
    cases e : PySem.intText? z with
    | none => rw [e] at r; exact r.elim
    | some n => rw [e] at r; exact .inr ⟨z, n, rfl, e, hz, Run.fin at_ r rInt⟩
  · exact r.elim
def boolD : List D → M D
  | [.int i] => ret (.bl (i != 0))
  | [.bl b] => ret (.bl b)
  | _ => fail
def maxL : List Int → Option Int
  | [] => none
  | i :: r => some (r.foldl max i)
def minL : List Int → Option Int
  | [] => none
  | i :: r => some (r.foldl min i)
theorem foldl_max_mem : ∀ (r : List Int) (i : Int), r.foldl max i = i ∨ r.foldl max i ∈ r
  | [], i => .inl rfl
  | j :: r, i => by
    rw [List.foldl_cons]
    rcases foldl_max_mem r (max i j) with h | h
    · rw [h]
      by_cases hh : i ≤ j
      · right; rw [Int.max_eq_right hh]; exact List.mem_cons_self
      · left; exact Int.max_eq_left (by omega)
    · exact .inr (List.mem_cons_of_mem _ h)
theorem foldl_max_ge : ∀ (r : List Int) (i : Int), i ≤ r.foldl max i ∧ ∀ j ∈ r, j ≤ r.foldl max i
  | [], i => ⟨Int.le_refl _, fun _ h => by cases h⟩
  | j :: r, i => by
    rw [List.foldl_cons]
    obtain ⟨h1, h2⟩ := foldl_max_ge r (max i j)
    refine ⟨Int.le_trans (Int.le_max_left i j) h1, fun k hk => ?_⟩
    rcases List.mem_cons.mp hk with rfl | hk
    · exact Int.le_trans (Int.le_max_right i k) h1
    · exact h2 k hk
theorem foldl_min_mem : ∀ (r : List Int) (i : Int), r.foldl min i = i ∨ r.foldl min i ∈ r
  | [], i => .inl rfl
  | j :: r, i => by
    rw [List.foldl_cons]
    rcases foldl_min_mem r (min i j) with h | h
    · rw [h]
      by_cases hh : i ≤ j
      · left; exact Int.min_eq_left hh
      · right; rw [Int.min_eq_right (by omega)]; exact List.mem_cons_self
    · exact .inr (List.mem_cons_of_mem _ h)
theorem foldl_min_le : ∀ (r : List Int) (i : Int), r.foldl min i ≤ i ∧ ∀ j ∈ r, r.foldl min i ≤ j
  | [], i => ⟨Int.le_refl _, fun _ h => by cases h⟩
  | j :: r, i => by
    rw [List.foldl_cons]
    obtain ⟨h1, h2⟩ := foldl_min_le r (min i j)
    refine ⟨Int.le_trans h1 (Int.min_le_left i j), fun k hk => ?_⟩
    rcases List.mem_cons.mp hk with rfl | hk
    · exact Int.le_trans h1 (Int.min_le_right i k)
    · exact h2 k hk
theorem maxL_is {ns : List Int} {m : Int} (h1 : m ∈ ns) (h2 : ∀ y, y ∈ ns → y ≤ m) : maxL ns = some m := by
  cases ns with
  | nil => cases h1
  | cons i r =>
    have a := foldl_max_ge r i
    have b := foldl_max_mem r i
    unfold maxL
    have c : r.foldl max i ≤ m := by
      rcases b with b | b
      · rw [b]; exact h2 i List.mem_cons_self
      · exact h2 _ (List.mem_cons_of_mem _ b)
    have d : m ≤ r.foldl max i := by
      rcases List.mem_cons.mp h1 with rfl | h1
      · exact a.1
      · exact a.2 m h1
    exact congrArg some (Int.le_antisymm ‹_› ‹_›)
theorem minL_is {ns : List Int} {m : Int} (h1 : m ∈ ns) (h2 : ∀ y, y ∈ ns → m ≤ y) : minL ns = some m := by
  cases ns with
  | nil => cases h1
  | cons i r =>
    have a := foldl_min_le r i
    have b := foldl_min_mem r i
    unfold minL
    congr 1
    have c : m ≤ r.foldl min i := by
      rcases b with b | b
      · rw [b]; exact h2 i List.mem_cons_self
      · exact h2 _ (List.mem_cons_of_mem _ b)
    have d : r.foldl min i ≤ m := by
      rcases List.mem_cons.mp h1 with rfl | h1
      · exact a.1
      · exact a.2 m h1
    exact congrArg some (Int.le_antisymm ‹_› ‹_›)
def maxD : List D → M D
  | [.int i, .int j] => ret (.int (if j > i then j else i))
  | [.lst xs] => orFail (((intsL xs).bind maxL).map .int)
  | _ => fail
def minD : List D → M D
  | [.int i, .int j] => ret (.int (if j < i then j else i))
  | [.lst xs] => orFail (((intsL xs).bind minL).map .int)
  | _ => fail
theorem jc_max (hc : X.calm = true) (hK : X.K = K := by rfl) : JCA K w0 W X (.builtin "max") maxD := fun ds => by
  subst hK
  have hor : CallR X (.builtin "max") (fun xs H Q => (∃ i j, xs = [.int i, .int j] ∧ Q (.int (if j > i then j else i)) H) ∨ rMax X.K xs H Q) := fun pins s σ H xs us Q I r h => h.elim (call_max2 hc pins s σ H xs us Q I r) (cr_max hc pins s σ H xs us Q I r)
  refine JC.of hor (by unfold maxD; split <;> first | exact mono_ret | exact mono_orFail | exact mono_fail) fun σ ρ w xs Q at_ rl r => ?_
  unfold maxD at r
  split at r
  · obtain ⟨v, u, rfl, r1, r2⟩ := rl.inv2
    unfold Rep at r1 r2; subst r1 r2
    exact .inl ⟨_, _, rfl, Run.fin at_ r rInt⟩
  · rename_i _ xs
    obtain ⟨v, rfl, r1⟩ := rl.inv1
    obtain ⟨a, vs, rfl, h1, h2, _⟩ := rep_lst at_.st.ok r1
    cases e : intsL xs with
    | none => rw [e] at r; exact r.elim
    | some ns =>
      rw [e, Option.bind_some] at r
      rw [intsL_rep h2 e] at h1
      refine .inr ⟨a, ns, rfl, h1, ?_, fun m h3 h4 => ?_⟩
      · cases ns with
        | nil => exact r.elim
        | cons i r => exact Nat.succ_pos _
      · rw [maxL_is h3 h4] at r
        exact Run.fin at_ r rInt
  · exact r.elim
theorem jc_min (hc : X.calm = true) (hK : X.K = K := by rfl) : JCA K w0 W X (.builtin "min") minD := fun ds => by
  subst hK
  have hor : CallR X (.builtin "min") (fun xs H Q => (∃ i j, xs = [.int i, .int j] ∧ Q (.int (if j < i then j else i)) H) ∨ rMin X.K xs H Q) := fun pins s σ H xs us Q I r h => h.elim (call_min2 hc pins s σ H xs us Q I r) (cr_min hc pins s σ H xs us Q I r)
  refine JC.of hor (by unfold minD; split <;> first | exact mono_ret | exact mono_orFail | exact mono_fail) fun σ ρ w xs Q at_ rl r => ?_
  unfold minD at r
  split at r
  · obtain ⟨v, u, rfl, r1, r2⟩ := rl.inv2
    unfold Rep at r1 r2; subst r1 r2
    exact .inl ⟨_, _, rfl, Run.fin at_ r rInt⟩
  · rename_i _ xs
    obtain ⟨v, rfl, r1⟩ := rl.inv1
    obtain ⟨a, vs, rfl, h1, h2, _⟩ := rep_lst at_.st.ok r1
    cases e : intsL xs with
    | none => rw [e] at r; exact r.elim
    | some ns =>
      rw [e, Option.bind_some] at r
      rw [intsL_rep h2 e] at h1
      refine .inr ⟨a, ns, rfl, h1, ?_, fun m h3 h4 => ?_⟩
      · cases ns with
        | nil => exact r.elim
        | cons i r => exact Nat.succ_pos _
      · rw [minL_is h3 h4] at r
        exact Run.fin at_ r rInt
  · exact r.elim
def blsL : List D → Option (List Bool)
  | [] => some []
  | .bl i :: ds => (blsL ds).map (i :: ·)
  | _ :: _ => none
theorem blsL_rep {G : Gd} : ∀ {ds : List D} {vs : List V} {ns : List Bool}, RepL K G ds vs → blsL ds = some ns → vs = ns.map V.bl
  | [], _, _, r, e => by unfold RepL at r; subst r; unfold blsL at e; cases e; rfl
  | d :: ds, _, ns, r, e => by
    unfold RepL at r
    obtain ⟨v, vr, rfl, h1, h2⟩ := r
    cases d <;> first | (unfold blsL at e; cases e; done) | skip
    rename_i i
    unfold blsL at e
    cases q : blsL ds with
    | none => rw [q] at e; cases e
    | some ms =>
      rw [q] at e; cases e
      unfold Rep at h1; subst h1
      rw [blsL_rep h2 q]; rfl
def sumD : List D → M D
  | [.lst xs] => orFail ((intsL xs).map fun ns => .int ns.sum)
  | _ => fail
def allD : List D → M D
  | [.lst xs] => orFail ((blsL xs).map fun ns => .bl (ns.all id))
  | _ => fail
def anyD : List D → M D
  | [.lst xs] => orFail ((blsL xs).map fun ns => .bl (ns.any id))
  | _ => fail
theorem jc_all (hc : X.calm = true) (hK : X.K = K := by rfl) : JCA K w0 W X (.builtin "all") allD := fun ds => by
  subst hK
  refine JC.of (cr_all hc) (by unfold allD; split <;> first | exact mono_orFail | exact mono_fail) fun σ ρ w xs Q at_ rl r => ?_
  unfold allD at r
  split at r
  · rename_i _ xs
    obtain ⟨v, rfl, r1⟩ := rl.inv1
    obtain ⟨a, vs, rfl, h1, h2, _⟩ := rep_lst at_.st.ok r1
    cases e : blsL xs with
    | none => rw [e] at r; exact r.elim
    | some ns => rw [e] at r; rw [blsL_rep h2 e] at h1; exact ⟨a, ns, rfl, h1, Run.fin at_ r rBl⟩
  · exact r.elim
def listD : List D → M D
  | [.lst xs] => ret (.lst xs)
  | [.tup xs] => ret (.lst xs)
  | _ => fail
def tupleD : List D → M D
  | [.lst xs] => ret (.tup xs)
  | [.tup xs] => ret (.tup xs)
  | _ => fail
end
end Dn

namespace Dn
open PySem PySem.W PySem.Spec PyProof.Rows L2 TL Bits An
section
variable {K : Frag} {w0 w w1 : Wd} {W : WX} {X : Cx} {ρ : Rh} {σ : L2.St} {pins : List (Addr × Obj)} {s : Shared} {pos p : Pos} {tg : Expr}
structure JM (K : Frag) (w0 : Wd) (W : WX) (X : Cx) (id : String) (d : D) (ds : List D) (m : M D) : Prop where
  mono : Mono m
  run : ∀ (pins : List (Addr × Obj)) (s : Shared) (σ : L2.St) (ρ : Rh) (w : Wd) (x : V) (v : Value) (xs : List V) (us : List Value) (Q : VK), Inv X pins σ w.H s → At K w0 w ρ σ → RelV x v → Rep K w.toGd d x → Vals xs us → RepL K w.toGd ds xs → Run K w0 W (Rep K) σ ρ w m Q →
    wpAny (model X.prog X.w) X.A (call (.builtin id) (v :: us)) (EP X pins σ Q) X.xe s
theorem JM.of {id : String} {d : D} {ds : List D} {m : M D} {r : V → List V → Hp → VK → Prop} (ho : MtR X id r) (hm : Mono m) (h : ∀ (σ : L2.St) (ρ : Rh) (w : Wd) (x : V) (xs : List V) (Q : VK), At K w0 w ρ σ → Rep K w.toGd d x → RepL K w.toGd ds xs → Run K w0 W (Rep K) σ ρ w m Q → r x xs w.H Q) : JM K w0 W X id d ds m :=
  ⟨hm, fun pins s σ ρ w x v xs us Q I at_ rx rd rv rl q => ho pins s σ w.H x xs v us Q I rx rv (h σ ρ w x xs Q at_ rd rl q)⟩
theorem JM.no {id : String} {d : D} {ds : List D} : JM K w0 W X id d ds fail := ⟨mono_fail, fun _ _ _ _ _ _ _ _ _ _ _ _ _ _ _ _ h => h.elim⟩
abbrev JMA (K : Frag) (w0 : Wd) (W : WX) (X : Cx) (id : String) (f : D → List D → M D) : Prop := ∀ d ds, JM K w0 W X id d ds (f d ds)
theorem JM.raw {id : String} {d : D} {ds : List D} {m : M D} (h : JM K w0 W X id d ds m) {x : V} {v : Value} {xs : List V} {us : List Value} {Qd : D → Sv → Prop} {Ed : Xn → Sv → Prop} (I : Inv X pins σ w.H s) (at_ : At K w0 w ρ σ) (rx : RelV x v) (rd : Rep K w.toGd d x) (rv : Vals xs us) (rl : RepL K w.toGd ds xs) (r : m w.S Qd Ed) (hE : ExcE K w0 W w ρ σ Ed) :
    wpAny (model X.prog X.w) X.A (call (.builtin id) (v :: us)) (GotE K w0 X pins σ ρ w Qd) X.xe s := thn (h.run pins s σ ρ w x v xs us _ I at_ rx rd rv rl (run_of h.mono r hE)) fun _ _ => ep_got
def isOf (T : String) (d : D) : Bool := match d with
  | .str _ => T == "str"
  | .int _ => T == "int"
  | .lst _ => T == "list"
  | _ => false
def eMt (T : String) (f : D → List D → M D) (o : Rh → M D) (a : Rh → M (List D)) : Rh → M D := fun ρ => bind (o ρ) fun x => match isOf T x with
  | true => bind (a ρ) fun ds => f x ds
  | false => fail
theorem isOf_ty {T : String} {d : D} {x : V} (ok : Wok K w) (h : isOf T d = true) (r : Rep K w.toGd d x) : tyV K T x w.H := by
  cases d <;> first | (cases h; done) | skip
  case str => unfold Rep at r; subst r; exact beq_iff_eq.mp h
  case int => unfold Rep at r; subst r; exact beq_iff_eq.mp h
  case lst =>
    obtain ⟨a, vs, rfl, h1, _⟩ := rep_lst ok r
    exact .inl ⟨beq_iff_eq.mp h, vs, h1⟩
theorem de_bm {o e : Expr} {es : List Expr} {name : Str} {apos : Pos} {T id : String} {mo : Rh → M D} {ma : Rh → M (List D)} {f : D → List D → M D} (pa : PlainAttrs T) (slot : Slot T name id) (hty : typeOf (.builtin id) = pure (.type "method_descriptor")) (hm : JMA K w0 W X id f) (ho : DE K w0 W X o mo) (ha : DA K w0 W X (e :: es) ma)
    (hK : X.K = K := by rfl) (hbase : attributeBase o name X.env (eval o X.env) = eval o X.env := by rfl)
    (hfew : ((backTo pos (starEach (e :: es) X.env)).all (fun x => !x.1) && (backToKw pos (keywordEach [] X.env)).all (fun x => x.1.isSome)
      && decide ((e :: es).length + ([] : List Keyword).length + (if ([] : List Keyword).isEmpty then 0 else 1) < 30)) = true := by rfl)
    (hline : (apos.endLine == pos.line) = true := by rfl) (hs : starEach (e :: es) X.env = (false, eval e X.env) :: starEach es X.env := by rfl) (hplain : (backTo pos (starEach es X.env)).any (·.1) = false := by rfl) :
    DE K w0 W X (.Call (.Attribute o name apos) (e :: es) [] pos) (eMt T f mo ma) := by
  subst hK
  have hmono : ∀ ρ, Mono (eMt T f mo ma ρ) := fun ρ => mono_bind (ho.mono ρ) fun d => by
    split
    · exact mono_bind (ha.mono ρ) fun _ => (hm _ _).mono
    · exact mono_fail
  refine .mk' hmono fun pins s σ ρ w Qd Ed I at_ r hE => ?_
  refine wpAny_Call_method_late hbase hfew hline rfl (thn (ho.raw I at_ r hE) ?_)
  rintro v s1 ⟨x, d, w1, I1, n1, rx, rd, q1⟩
  cases hof : isOf T d with
  | false => simp only [hof] at q1; exact q1.elim
  | true =>
    simp only [hof] at q1
    obtain ⟨h1, h2⟩ := tyV_is I1 rx (isOf_ty n1.at_.st.ok hof rd)
    refine ⟨T, id, pa, slot, hty, h1, h2, ?_⟩
    have hA := ha.raw pos I1 n1.at_ q1 (hE.nw n1)
    rw [hs] at hA ⊢
    refine Calls.callWith_builtin (by show (false || (backTo pos (starEach es X.env)).any (·.1)) = false; rw [hplain] <;> rfl) (Calls.evalArgs_plain (thn hA ?_))
    rintro us s2 ⟨vs, ds, w2, I2, n2, rv, rl, q2⟩
    exact thn ((hm d ds).raw I2 n2.at_ rx (Rep.le n2.le _ rd) rv rl q2 (hE.nw (n1.trans n2))) fun _ _ g => g.nw (n1.trans n2)
theorem de_bm0 {o : Expr} {name : Str} {apos : Pos} {T id : String} {mo : Rh → M D} {f : D → List D → M D} (pa : PlainAttrs T) (slot : Slot T name id) (hty : typeOf (.builtin id) = pure (.type "method_descriptor")) (hm : JMA K w0 W X id f) (ho : DE K w0 W X o mo)
    (hK : X.K = K := by rfl) (hbase : attributeBase o name X.env (eval o X.env) = eval o X.env := by rfl) (hline : (apos.endLine == pos.line) = true := by rfl) : DE K w0 W X (.Call (.Attribute o name apos) [] [] pos) (eMt T f mo aNil) := by
  subst hK
  have hmono : ∀ ρ, Mono (eMt T f mo aNil ρ) := fun ρ => mono_bind (ho.mono ρ) fun d => by
    split
    · exact mono_bind mono_ret fun _ => (hm _ _).mono
    · exact mono_fail
  refine .mk' hmono fun pins s σ ρ w Qd Ed I at_ r hE => ?_
  refine wpAny_Call_method0_late hbase hline (thn (ho.raw I at_ r hE) ?_)
  rintro v s1 ⟨x, d, w1, I1, n1, rx, rd, q1⟩
  cases hof : isOf T d with
  | false => simp only [hof] at q1; exact q1.elim
  | true =>
    simp only [hof] at q1
    obtain ⟨h1, h2⟩ := tyV_is I1 rx (isOf_ty n1.at_.st.ok hof rd)
    exact ⟨T, id, pa, slot, hty, h1, h2, Calls.callWith_builtin rfl (PySem.evalArgs_none (thn ((hm d []).raw I1 n1.at_ rx rd .nil RepL.nil q1 (hE.nw n1)) fun _ _ g => g.nw n1))⟩
def mSS (C : Str → Str → Prop) (g : Str → Str → D) (d : D) (ds : List D) : M D := match d, ds with
  | .str a, [.str b] => need (C a b) (ret (g a b))
  | _, _ => fail
def mS (C : Str → Prop) (g : Str → D) (d : D) (ds : List D) : M D := match d, ds with
  | .str a, [] => need (C a) (ret (g a))
  | _, _ => fail
theorem mono_mSS {C : Str → Str → Prop} {g : Str → Str → D} {d : D} {ds : List D} : Mono (mSS C g d ds) := by unfold mSS; split; exact mono_need mono_ret; exact mono_fail
theorem mono_mS {C : Str → Prop} {g : Str → D} {d : D} {ds : List D} : Mono (mS C g d ds) := by unfold mS; split; exact mono_need mono_ret; exact mono_fail
theorem jm_ss {id : String} {C : Str → Str → Prop} {g : Str → Str → D} {gv : Str → Str → V} {r : V → List V → Hp → VK → Prop} (ho : MtR X id r) (hr : ∀ a b H Q, C a b → Q (gv a b) H → r (.str a) [.str b] H Q) (hg : ∀ a b G, Rep K G (g a b) (gv a b)) : JMA K w0 W X id (mSS C g) := fun d ds => by
  refine JM.of ho mono_mSS fun σ ρ w x xs Q at_ rd rl q => ?_
  unfold mSS at q
  split at q
  · obtain ⟨u, rfl, r1⟩ := rl.inv1
    unfold Rep at rd r1; subst rd r1
    exact hr _ _ _ _ q.1 (Run.fin at_ (Run.need q).2 (hg _ _ _))
  · exact q.elim
theorem jm_s {id : String} {C : Str → Prop} {g : Str → D} {gv : Str → V} {r : V → List V → Hp → VK → Prop} (ho : MtR X id r) (hr : ∀ a H Q, C a → Q (gv a) H → r (.str a) [] H Q) (hg : ∀ a G, Rep K G (g a) (gv a)) : JMA K w0 W X id (mS C g) := fun d ds => by
  refine JM.of ho mono_mS fun σ ρ w x xs Q at_ rd rl q => ?_
  unfold mS at q
  split at q
  · have e : xs = [] := by unfold RepL at rl; exact rl
    subst e
    unfold Rep at rd; subst rd
    exact hr _ _ _ q.1 (Run.fin at_ (Run.need q).2 (hg _ _))
  · exact q.elim
abbrev startswithD := mSS (fun _ _ => True) fun a b => .bl (Txt.startswith a b)
abbrev endswithD := mSS (fun _ _ => True) fun a b => .bl (Txt.endswith a b)
abbrev findD := mSS (fun _ _ => True) fun a b => .int (Txt.find a b)
abbrev rfindD := mSS (fun _ _ => True) fun a b => .int (Txt.rfind a b)
abbrev countD := mSS (fun _ _ => True) fun a b => .int (Txt.count a b)
abbrev rstripD := mSS (fun a _ => a.length ≤ sizeLine) fun a b => .str (Txt.rstripChars a b)
abbrev lowerD := mS (fun a => a.length ≤ 5592405) fun a => .str (Txt.lower a)
abbrev upperD := mS (fun a => a.length ≤ 5592405) fun a => .str (Txt.upper a)
theorem jm_startswith : JMA K w0 W X "str.startswith" startswithD := jm_ss (gv := fun a b => .bl (Txt.startswith a b)) mt_startswith (fun a b H Q _ q => ⟨a, b, rfl, rfl, q⟩) fun _ _ _ => rBl
theorem jm_endswith : JMA K w0 W X "str.endswith" endswithD := jm_ss (gv := fun a b => .bl (Txt.endswith a b)) mt_endswith (fun a b H Q _ q => ⟨a, b, rfl, rfl, q⟩) fun _ _ _ => rBl
theorem jm_rfind : JMA K w0 W X "str.rfind" rfindD := jm_ss (gv := fun a b => .int (Txt.rfind a b)) mt_rfind (fun a b H Q _ q => ⟨a, b, rfl, rfl, q⟩) fun _ _ _ => rInt
theorem jm_count : JMA K w0 W X "str.count" countD := jm_ss (gv := fun a b => .int (Txt.count a b)) mt_count (fun a b H Q _ q => ⟨a, b, rfl, rfl, q⟩) fun _ _ _ => rInt
theorem jm_rstrip : JMA K w0 W X "str.rstrip" rstripD := jm_ss (gv := fun a b => .str (Txt.rstripChars a b)) mt_rstripChars (fun a b H Q c q => ⟨a, b, rfl, rfl, c, q⟩) fun _ _ _ => rStr
theorem jm_lower : JMA K w0 W X "str.lower" lowerD := jm_s (gv := fun a => .str (Txt.lower a)) mt_lower (fun a H Q c q => ⟨a, rfl, rfl, c, q⟩) fun _ _ => rStr
theorem repL_strs {G : Gd} : ∀ (ys : List Str), RepL K G (ys.map D.str) (ys.map V.str)
  | [] => RepL.nil
  | _ :: ys => RepL.cons rStr (repL_strs ys)
def splitD (d : D) (ds : List D) : M D := match d, ds with
  | .str a, [.str b] => need ((b.length == 0) = false ∧ a.length + 2 ≤ sizeLine) (ret (.lst ((Txt.split a b).map .str)))
  | _, _ => fail
theorem jm_split : JMA K w0 W X "str.split" splitD := fun d ds => by
  refine JM.of mt_split (by unfold splitD; split; exact mono_need mono_ret; exact mono_fail) fun σ ρ w x xs Q at_ rd rl q => ?_
  unfold splitD at q
  split at q
  · obtain ⟨u, rfl, r1⟩ := rl.inv1
    unfold Rep at rd r1; subst rd r1
    obtain ⟨⟨c1, c2⟩, q⟩ := Run.need q
    exact ⟨_, _, rfl, rfl, c1, c2, fun p hp => Run.new at_ q hp (lst_laid at_.st.ok hp (repL_strs _))⟩
  · exact q.elim
def partD (d : D) (ds : List D) : M D := match d, ds with
  | .str a, [.str b] => need ((b.length == 0) = false ∧ a.length ≤ sizeLine) (ret (.tup [.str (Txt.partition a b).1, .str (Txt.partition a b).2.1, .str (Txt.partition a b).2.2]))
  | _, _ => fail
theorem jm_part : JMA K w0 W X "str.partition" partD := fun d ds => by
  refine JM.of mt_partition (by unfold partD; split; exact mono_need mono_ret; exact mono_fail) fun σ ρ w x xs Q at_ rd rl q => ?_
  unfold partD at q
  split at q
  · obtain ⟨u, rfl, r1⟩ := rl.inv1
    unfold Rep at rd r1; subst rd r1
    obtain ⟨⟨c1, c2⟩, q⟩ := Run.need q
    exact ⟨_, _, rfl, rfl, c1, c2, fun p hp => Run.new at_ q hp (tup_laid at_.st.ok hp (RepL.cons rStr (RepL.cons rStr (RepL.cons rStr RepL.nil))))⟩
  · exact q.elim
def strsL : List D → Option (List Str)
  | [] => some []
  | .str i :: ds => (strsL ds).map (i :: ·)
  | _ :: _ => none
theorem strsL_rep {G : Gd} : ∀ {ds : List D} {vs : List V} {ns : List Str}, RepL K G ds vs → strsL ds = some ns → vs = ns.map V.str
  | [], _, _, r, e => by unfold RepL at r; subst r; unfold strsL at e; cases e; rfl
  | d :: ds, _, ns, r, e => by
    unfold RepL at r
    obtain ⟨v, vr, rfl, h1, h2⟩ := r
    cases d <;> first | (unfold strsL at e; cases e; done) | skip
    rename_i i
    unfold strsL at e
    cases q : strsL ds with
    | none => rw [q] at e; cases e
    | some ms =>
      rw [q] at e; cases e
      unfold Rep at h1; subst h1
      rw [strsL_rep h2 q]; rfl
def joinD (d : D) (ds : List D) : M D := match d, ds with
  | .str a, [.lst xs] => (match strsL xs with
    | some ys => need ((ys.map (·.length)).sum + ys.length * a.length ≤ 16777216) (ret (.str (Txt.join a ys)))
    | none => fail)
  | .str a, [.str y] => need (JoinOk a (PyProof.Rows.signs y) = true) (ret (.str (Txt.join a (PyProof.Rows.signs y))))
  | _, _ => fail
end
end Dn

namespace Dn
open PySem PySem.W PySem.Spec PyProof.Rows L2 TL Bits An
section
variable {K : Frag} {w0 w w1 : Wd} {W : WX} {X : Cx} {ρ : Rh} {σ : L2.St} {pins : List (Addr × Obj)} {s : Shared} {pos p : Pos} {tg : Expr} {k : Nat}
def rJoinT : V → List V → Hp → VK → Prop := fun x xs H Q => ∃ a y : Str, x = .str a ∧ xs = [.str y] ∧ JoinOk a (PyProof.Rows.signs y) = true ∧ Q (.str (Txt.join a (PyProof.Rows.signs y))) H
theorem mt_joinT (hc : X.calm = true) : MtR X "str.join" rJoinT := by
  intro pins s σ H x xs v us Q I rx rs h
  obtain ⟨a, y, rfl, rfl, ok, q⟩ := h
  obtain ⟨t, rfl⟩ := rx
  obtain ⟨u, rfl, t', rfl⟩ := rs.one
  exact PySem.SC.joinStr (I.ok.hd hc) ok fun h' k t2 keep => ⟨.str _, H, I.kept (t' := k) keep, ⟨_, rfl⟩, q⟩
theorem jm_join (hc : X.calm = true) (hK : X.K = K := by rfl) : JMA K w0 W X "str.join" joinD := fun d ds => by
  subst hK
  have hm : Mono (joinD d ds) := by
    unfold joinD
    split
    · split
      · exact mono_need mono_ret
      · exact mono_fail
    · exact mono_need mono_ret
    · exact mono_fail
  refine JM.of (mt_join.or (mt_joinT hc)) hm fun σ ρ w x xs Q at_ rd rl q => ?_
  unfold joinD at q
  split at q
  · obtain ⟨u, rfl, r1⟩ := rl.inv1
    unfold Rep at rd; subst rd
    rename_i xs
    cases e : strsL xs with
    | none => rw [e] at q; exact q.elim
    | some ys =>
      rw [e] at q
      obtain ⟨a, vs, rfl, h1, h2, _⟩ := rep_lst at_.st.ok r1
      rw [strsL_rep h2 e] at h1
      exact .inl ⟨_, a, ys, rfl, rfl, .inl h1, q.1, Run.fin at_ (Run.need q).2 rStr⟩
  · obtain ⟨u, rfl, r1⟩ := rl.inv1
    unfold Rep at rd r1; subst rd r1
    exact .inr ⟨_, _, rfl, rfl, q.1, Run.fin at_ (Run.need q).2 rStr⟩
  · exact q.elim
def indexD (d : D) (ds : List D) : M D := match d, ds with
  | .str a, [.str b] => orFail ((Txt.index0 a b).map fun k => .int (k : Nat))
  | _, _ => fail
theorem mono_indexD {d : D} {ds : List D} : Mono (indexD d ds) := by unfold indexD; split; exact mono_orFail; exact mono_fail
theorem jm_index (hc : X.calm = true) : JMA K w0 W X "str.index" indexD := fun d ds => by
  refine ⟨mono_indexD, fun pins s σ ρ w x v xs us Q I at_ rx rd rv rl q => ?_⟩
  unfold indexD at q
  split at q
  · obtain ⟨u, rfl, r1⟩ := rl.inv1
    unfold Rep at rd r1; subst rd r1
    rename_i a b
    refine mt_indexX hc takes0 pins s σ w.H _ _ v us Q I rx rv ⟨a, b, rfl, rfl, fun k e => ?_, fun e => ?_⟩
    · rw [e] at q; exact Run.fin at_ q rInt
    · rw [e] at q; exact q.elim
  · exact q.elim
abbrev Fns := List (Str × (List D → M D))
def MTbl (P : Program) (wd : World) (K : Frag) (mg : Str → Option Value) (base : Heap) (k : Nat) (m : Str) (tbl : Fns) : Prop := ∀ c F, tbl.lookup c = some F → Cls K (He.ga K c) ∧ Meth K (He.ga K c) m (He.ma K (He.ga K c) m) ∧ FD P wd K mg base k (He.ma K (He.ga K c) m) F
theorem mtbl_nil {P : Program} {wd : World} {mg : Str → Option Value} {base : Heap} {m : Str} : MTbl P wd K mg base k m [] := fun _ _ h => by cases h
theorem mtbl_cons {P : Program} {wd : World} {mg : Str → Option Value} {base : Heap} {m c : Str} {F : List D → M D} {tbl : Fns} (h1 : Cls K (He.ga K c)) (h2 : Meth K (He.ga K c) m (He.ma K (He.ga K c) m)) (h3 : FD P wd K mg base k (He.ma K (He.ga K c) m) F) (t : MTbl P wd K mg base k m tbl) : MTbl P wd K mg base k m ((c, F) :: tbl) := fun c' F' e => by
  rw [List.lookup_cons] at e
  split at e
  · rename_i q
    cases e
    have q : c' = c := by simpa using q
    subst q
    exact ⟨h1, h2, h3⟩
  · exact t c' F' e
theorem mono_tbl {P : Program} {wd : World} {mg : Str → Option Value} {base : Heap} {m c : Str} {F : List D → M D} {tbl : Fns} (h : MTbl P wd K mg base k m tbl) (e : tbl.lookup c = some F) (ds : List D) : Mono (F ds) := (h c F e).2.2.mono ds
theorem inst_at {d : D} {c : Str} {x : V} {u : Value} (I : Inv X pins σ w.H s) (ok : Wok X.K w) (hc : clsN d = some c) (rd : Rep X.K w.toGd d x) (rx : RelV x u) : ∃ a dx fs ox od, x = .ref a ∧ u = .ref a ∧ w.H a = some (.ins (He.ga X.K c) dx fs) ∧ PySem.W.InstAt s.heap a ox (He.ga X.K c) od := by
  have fin : ∀ a dx fs, x = .ref a → w.H a = some (.ins (He.ga X.K c) dx fs) → ∃ a dx fs ox od, x = .ref a ∧ u = .ref a ∧ w.H a = some (.ins (He.ga X.K c) dx fs) ∧ PySem.W.InstAt s.heap a ox (He.ga X.K c) od := fun a dx fs e h => by
    subst e
    obtain ⟨mA, O, _⟩ := ins_get I.hok h
    obtain ⟨od, J, _⟩ := O.look
    exact ⟨a, dx, fs, _, _, rfl, rx, h, J⟩
  cases d <;> first | (cases hc; done) | skip
  case ins c' ns ds =>
    cases hc
    obtain ⟨a, dx, vs, e, h, _⟩ := rep_ins ok rd
    exact fin a dx _ e h
  case cell i =>
    cases hc
    unfold Rep at rd
    obtain ⟨q, h1, hq, e⟩ := rd
    obtain ⟨cl, h2⟩ : ∃ c, w.S[i]? = some c := by
      have hl := (List.getElem?_eq_some_iff.mp h1).1
      rw [ok.len] at hl
      exact ⟨w.S[i], by simp [hl]⟩
    obtain ⟨h3, _⟩ := ok.cell i q cl h1 h2
    cases cl
    case tb => exact absurd h3.2.1.symm hq
    case bk =>
      obtain ⟨dx, ea, _⟩ := h3
      exact fin _ dx _ e ea
    obtain ⟨dx, u, ea, _⟩ := h3
    exact fin _ dx _ e ea
def asStr : D → M D
  | .str z => ret (.str z)
  | _ => fail
theorem mono_asStr {d : D} : Mono (asStr d) := by cases d <;> first | exact mono_ret | exact mono_fail
def strD (tbl : Fns) : List D → M D
  | [.int i] => need (i.natAbs.log2 < 1920) (ret (.str (toString i)))
  | [.ins c ns ds] => (match tbl.lookup c with
    | some F => noex (bind (F [.ins c ns ds]) asStr)
    | none => fail)
  | _ => fail
theorem jc_str {tbl : Fns} (h : MTbl X.prog X.w K X.mg X.base k "__str__" tbl) (hr : Room (k + 2) X.A) (hK : X.K = K := by rfl) : JCA K w0 W X (.type "str") (strD tbl) := fun ds => by
  subst hK
  have hm : Mono (strD tbl ds) := by
    unfold strD
    split
    · exact mono_need mono_ret
    · split
      · rename_i e
        exact mono_noex (mono_bind (mono_tbl h e _) fun _ => mono_asStr)
      · exact mono_fail
    · exact mono_fail
  refine ⟨hm, fun pins s σ ρ w xs us Q I at_ rv rl r => ?_⟩
  unfold strD at r
  split at r
  · obtain ⟨v, rfl, r1⟩ := rl.inv1
    unfold Rep at r1; subst r1
    exact call_str_int pins s σ w.H _ us Q I rv ⟨_, rfl, r.1, Run.fin at_ (Run.need r).2 rStr⟩
  · rename_i c ns ds
    obtain ⟨v, rfl, r1⟩ := rl.inv1
    cases e : tbl.lookup c with
    | none => rw [e] at r; exact r.elim
    | some F =>
      rw [e] at r
      obtain ⟨hc, hM, hF⟩ := h c F e
      obtain ⟨u, rfl, ru⟩ := rv.one
      obtain ⟨a, dx, fs, ox, od, rfl, rfl, ea, J⟩ := inst_at (c := c) I at_.st.ok rfl r1 ru
      have hr2 : Room k X.A.in1.in1 := (show Room (k + 1) X.A.in1 from Room.in1 hr).in1
      refine kso_call hr2.units0 I.kIn J hM.at_ hM.fn ?_
      refine wpAny_mono (wpAny_call (run_fd (W := WF) (us := [.ref a]) (vs := [.ref a]) hF hr2 I.env0.in1.in1 takes0 I at_ (.cons rfl .nil) (RepL.cons r1 RepL.nil) r (fun _ _ _ _ z => z.elim))) (fun w' s' z => ?_) fun _ _ x => x
      obtain ⟨v', d', w2, I2, n2, rv2, rd2, q2⟩ := z
      cases d' <;> first | exact q2.elim | skip
      unfold Rep at rd2; subst rd2
      obtain ⟨t, rfl⟩ := rv2
      exact ⟨.str _, w2.H, I2, ⟨t, rfl⟩, q2 w2 _ rfl n2 rStr⟩
  · exact r.elim
def FmtOk (K : Frag) (tbl : Fns) : Prop := ∀ c F, tbl.lookup c = some F → PySem.W.findIn K (.ref (He.ga K c)) "__format__" = some (some (.builtin "object.__format__")) ∧ PySem.W.mroIn K (He.ga K c) (.type "object") = some true
def fmtD (tbl : Fns) (x : D) : M D := match x with
  | .int i => need (i.natAbs.log2 < 1920) (ret (.str (toString i)))
  | .str z => need (z.length ≤ sizeLine) (ret (.str z))
  | .ins c ns ds => (match tbl.lookup c with
    | some F => noex (bind (F [.ins c ns ds]) asStr)
    | none => fail)
  | _ => fail
theorem mono_fmtD {tbl : Fns} {P : Program} {wd : World} {mg : Str → Option Value} {base : Heap} (h : MTbl P wd K mg base k "__str__" tbl) (d : D) : Mono (fmtD tbl d) := by
  unfold fmtD
  split
  · exact mono_need mono_ret
  · exact mono_need mono_ret
  · split
    · rename_i e
      exact mono_noex (mono_bind (mono_tbl h e _) fun _ => mono_asStr)
    · exact mono_fail
  · exact mono_fail
theorem de_fmt {tbl : Fns} {e : Expr} {m : Rh → M D} (h : MTbl X.prog X.w K X.mg X.base k "__str__" tbl) (hf : FmtOk K tbl) (hr : Room (k + 2) X.A) (he : DE K w0 W X e m) (hK : X.K = K := by rfl) : DE K w0 W X (.FormattedValue e (-1) none pos) (fun ρ => bind (m ρ) (fmtD tbl)) := by
  subst hK
  refine .mk' (fun ρ => mono_bind (he.mono ρ) fun _ => mono_fmtD h _) fun pins s σ ρ w Qd Ed I at_ r hE => ?_
  refine wpAny_FormattedValue_plain (thn (he.raw I at_ r hE) ?_)
  rintro u s1 ⟨x, d, w1, I1, n1, rx, rd, q⟩
  cases d <;> first | exact q.elim | skip
  case int i =>
    unfold Rep at rd; subst rd
    obtain ⟨t, rfl⟩ := rx
    exact wpAny_formatField_int q.1 ⟨.str (toString i), .str (toString i), w1, I1.tok _, n1, ⟨_, rfl⟩, rStr, q.2⟩
  case str z =>
    unfold Rep at rd; subst rd
    obtain ⟨t, rfl⟩ := rx
    exact wpAny_formatField_str ⟨.str z, .str z, w1, I1, n1, ⟨t, rfl⟩, rStr, q.2⟩ ⟨.str z, .str z, w1, I1.tok _, n1, ⟨_, rfl⟩, rStr, q.2⟩ q.1
  case ins c ns ds =>
    have q : (match tbl.lookup c with | some F => noex (bind (F [.ins c ns ds]) asStr) | none => fail) w1.S Qd Ed := q
    cases e : tbl.lookup c with
    | none => rw [e] at q; exact q.elim
    | some F =>
      rw [e] at q
      obtain ⟨hc, hM, hF⟩ := h c F e
      obtain ⟨hf1, hf2⟩ := hf c F e
      obtain ⟨a, dx, fs, ox, od, rfl, rfl, ea, J⟩ := inst_at (c := c) I1 n1.at_.st.ok rfl rd rx
      have hr1 : Room (k + 1) X.A.in1 := Room.in1 hr
      have I2 := I1.tok (s1.toks + 1)
      refine kfo_fieldS hr1.units0 I1.kIn J hf1 hf2 hM.at_ hM.fn ?_
      have hr1' : Room k X.A.in1 := hr1.mono (Nat.le_succ _)
      refine wpAny_mono (wpAny_call (run_fd (W := WF) (us := [.ref a]) (vs := [.ref a]) hF hr1' I2.env0.in1 takes0 I2 n1.at_ (.cons rfl .nil) (RepL.cons rd RepL.nil) q (fun _ _ _ _ z => z.elim))) (fun w' s' z => ?_) fun _ _ x => x
      obtain ⟨v', d', w2, I3, n2, rv2, rd2, q2⟩ := z
      cases d' <;> first | exact q2.elim | skip
      unfold Rep at rd2; subst rd2
      obtain ⟨t, rfl⟩ := rv2
      exact ⟨.str _, _, w2, I3, n1.trans n2, ⟨t, rfl⟩, rStr, q2⟩
def hexD (F : Nat → Str) (x : D) : M D := match x with
  | .int i => need (0 ≤ i ∧ (F i.toNat).length ≤ sizeLine) (ret (.str (F i.toNat)))
  | _ => fail
theorem mono_hexD {F : Nat → Str} {d : D} : Mono (hexD F d) := by cases d <;> first | exact mono_need mono_ret | exact mono_fail
theorem de_hex {e e' : Expr} {m : Rh → M D} {F : Nat → Str} (he : DE K w0 W X e m) (h : ∀ te, PE X e te → PE X e' (tFmtX F te)) : DE K w0 W X e' (fun ρ => bind (m ρ) (hexD F)) := by
  refine de_of1 (R := fun Q x H1 => ∃ n : Nat, x = .int (n : Int) ∧ (F n).length ≤ sizeLine ∧ Q (.str (F n)) H1) he (fun _ => mono_hexD) (fun te ht => h te ht) fun σ ρ w v d Q at_ rd r => ?_
  cases d <;> first | exact r.elim | skip
  rename_i i
  unfold Rep at rd; subst rd
  obtain ⟨⟨h0, hz⟩, r⟩ := Run.need r
  exact ⟨i.toNat, by rw [Int.toNat_of_nonneg h0], hz, Run.fin at_ r rStr⟩
theorem de_joined1 {e : Expr} {m : Rh → M D} (he : DE K w0 W X e m) : DE K w0 W X (.JoinedStr [e] pos) m := ⟨he.mono, pe_joined1 he.pe⟩
inductive DJ (K : Frag) (w0 : Wd) (W : WX) (X : Cx) : List Expr → List (Rh → M D) → Prop where
  | nil : DJ K w0 W X [] []
  | cons {e : Expr} {m : Rh → M D} {es : List Expr} {ms : List (Rh → M D)} (h : DE K w0 W X e m) (r : DJ K w0 W X es ms) : DJ K w0 W X (e :: es) (m :: ms)
def eJs : List (Rh → M D) → Str → Rh → M D
  | [], acc, _ => ret (.str acc)
  | m :: ms, acc, ρ => bind (m ρ) fun x => match x with
    | .str y => need ((acc ++ y).length ≤ sizeLine) (eJs ms (acc ++ y) ρ)
    | _ => fail
end
end Dn

namespace Dn
open PySem PySem.W PySem.Spec PyProof.Rows L2 TL Bits An
section
variable {K : Frag} {w0 w w1 : Wd} {W : WX} {X : Cx} {ρ : Rh} {σ : L2.St} {pins : List (Addr × Obj)} {s : Shared} {pos p apos : Pos} {tg : Expr} {k : Nat}
def hasAt (m : Str) : D → Bool
  | .ins _ ns _ => ns.contains m
  | .cell _ => m == ("version" : Str) || (m == ("width" : Str) || m == ("rows" : Str))
  | _ => true
def mthF (tbl : Fns) (m : Str) (x : D) : Option (List D → M D) := match clsN x with
  | some c => (match hasAt m x with
    | false => tbl.lookup c
    | true => none)
  | none => none
def eMth (tbl : Fns) (m : Str) (o : Rh → M D) (a : Rh → M (List D)) : Rh → M D := fun ρ => bind (o ρ) fun x => match mthF tbl m x with
  | some F => bind (a ρ) fun ds => F (x :: ds)
  | none => fail
structure NfOk (K : Frag) (cs : List Str) : Prop where
  o : ∀ c ∈ cs, ∀ c' ∈ cs, notFirst K (He.ga K c) (.ref (He.ga K c')) = true
  b : ∀ c ∈ cs, ∀ t ∈ btys, notFirst K (He.ga K c) (.type t) = true
theorem nfB_ok {K : Frag} {cs : List Str} (h : nfB K cs = true) : NfOk K cs := by
  have hh := List.all_eq_true.mp h
  exact ⟨fun c hc c' hc' => List.all_eq_true.mp (He.ba (hh c hc)).1 c' hc', fun c hc t ht => List.all_eq_true.mp (He.ba (hh c hc)).2 t ht⟩
theorem looks_ty {cs : List Str} {x : D} {v : V} {u : Value} {t : Sum String Str} (I : Inv X pins σ w.H s) (ok : Wok X.K w) (rd : Rep X.K w.toGd x v) (rv : RelV v u) (h : tyOfD cs x = some t) : PySem.W.Looks (model X.prog X.w) s.heap (typeOf u) (vTy X.K t) := by
  have obj : ∀ a o, s.heap.get? a = some o → PySem.W.Looks (model X.prog X.w) s.heap (typeOf (.ref a)) o.cls := fun a o e A Q E s' kk q => wpAny_typeOf_ref (kk _ _ e) q
  have pr : ∀ (u : Value) (c : Value), typeOf u = pure c → PySem.W.Looks (model X.prog X.w) s.heap (typeOf u) c := fun u c e A Q E s' kk q => by rw [e]; exact wpAny_pure q
  unfold tyOfD at h
  cases x <;> simp only [clsN, tyN, Option.map_some, Option.map_none] at h <;> first | (cases h; done) | skip
  case non => cases h; unfold Rep at rd; subst rd; cases rv; exact pr _ _ rfl
  case bl => cases h; unfold Rep at rd; subst rd; cases rv; exact pr _ _ rfl
  case int => cases h; unfold Rep at rd; subst rd; obtain ⟨t, rfl⟩ := rv; exact pr _ _ rfl
  case str => cases h; unfold Rep at rd; subst rd; obtain ⟨t, rfl⟩ := rv; exact pr _ _ rfl
  case byt => cases h; unfold Rep at rd; subst rd; obtain ⟨t, rfl⟩ := rv; exact pr _ _ rfl
  case lst =>
    cases h
    obtain ⟨a, vs, rfl, h1, _⟩ := rep_lst ok rd
    cases rv
    obtain ⟨its, _, ⟨o, n, e, c, _⟩, _⟩ := I.list h1
    have := obj a o e
    rw [c] at this
    exact this
  case dct =>
    cases h
    unfold Rep at rd
    obtain ⟨kvs, a, rfl, hr, _⟩ := rd
    cases rv
    obtain ⟨_, _, vs, _, o, es, ep, h1, h2, _⟩ := (show ObjOk X.prog X.w w.H s.heap a (.dK kvs) from I.hok a _ (ok.le _ _ hr))
    have := obj a o h1
    rw [h2.1] at this
    exact this
  case tup =>
    cases h
    obtain ⟨a, vs, rfl, h1, _⟩ := rep_tup ok rd
    cases rv
    obtain ⟨its, _, ⟨o, e, c, _⟩, _⟩ := I.tuple h1
    have := obj a o e
    rw [c] at this
    exact this
  case ins c ns ds =>
    split at h
    · cases h
      obtain ⟨a, dx, fs, ox, od, rfl, rfl, ea, J⟩ := inst_at (c := c) I ok rfl rd rv
      exact J.type
    · cases h
  case cell i =>
    split at h
    · cases h
      obtain ⟨a, dx, fs, ox, od, rfl, rfl, ea, J⟩ := inst_at (c := "Book") I ok rfl rd rv
      exact J.type
    · cases h
theorem nf_of {cs : List Str} {c : Str} {x : D} {t : Sum String Str} (nf : NfOk K cs) (hc : c ∈ cs) (h : tyOfD cs x = some t) : notFirst K (He.ga K c) (vTy K t) = true := by
  unfold tyOfD at h
  split at h
  · split at h
    · rename_i c' _ hc'
      cases h
      exact nf.o c hc c' (by simpa using hc')
    · cases h
  · cases e : tyN x with
    | none => rw [e] at h; cases h
    | some n => rw [e] at h; cases h; exact nf.b c hc n (tyN_mem e)
def ownOp (tbl : Fns) (cs : List Str) (base : D → D → M D) (a b : D) : M D := match clsN a with
  | some c => (match tbl.lookup c, cs.contains c, tyOfD cs b with
    | some F, true, some _ => F [a, b]
    | _, _, _ => fail)
  | none => base a b
def notB : D → M D
  | .bl b => ret (.bl (!b))
  | _ => fail
theorem mono_notB {d : D} : Mono (notB d) := by cases d <;> first | exact mono_ret | exact mono_fail
def ownNe (tbl : Fns) (cs : List Str) (base : D → D → M D) (a b : D) : M D := match clsN a with
  | some c => (match tbl.lookup c, cs.contains c, tyOfD cs b with
    | some F, true, some _ => bind (F [a, b]) notB
    | _, _, _ => fail)
  | none => base a b
def NeOk (K : Frag) (tbl : Fns) : Prop := ∀ c F, tbl.lookup c = some F → PySem.W.findIn K (.ref (He.ga K c)) "__ne__" = some (some (.builtin "object.__ne__")) ∧ PySem.W.mroIn K (He.ga K c) (.type "object") = some true
theorem j2_neO {tbl : Fns} {cs : List Str} {base : D → D → M D} (h : MTbl X.prog X.w K X.mg X.base k "__eq__" tbl) (hne : NeOk K tbl) (nf : NfOk K cs) (hr : Room (k + 1) X.A) (tk : Takes X W) (hb : J2A K w0 W X (compareOp .NotEq) base) (hK : X.K = K := by rfl) : J2A K w0 W X (compareOp .NotEq) (ownNe tbl cs base) := fun a b => by
  subst hK
  unfold ownNe
  split
  · rename_i c hc
    split
    · rename_i F t e1 e2 e3
      obtain ⟨h1, h2, h3⟩ := h c F e1
      obtain ⟨hn1, hm⟩ := hne c F e1
      refine ⟨mono_bind (h3.mono _) fun _ => mono_notB, fun pins s σ ρ w x y v u Q I at_ rx ry ra rb r => ?_⟩
      obtain ⟨ad, dx, fs, ox, od, rfl, rfl, ea, J⟩ := inst_at I at_.st.ok hc ra rx
      have XK := I.kIn
      have LT := looks_ty I at_.st.ok rb ry e3
      have hn := nf_of nf (by simpa using e2) e3
      show wpAny _ _ (richCompare .NotEq (.ref ad) u) _ _ _
      have hr1 : Room k X.A.in1 := Room.in1 hr
      have one : wpAny (model X.prog X.w) X.A (tryCompare (.ref ad) (cmpInfo .NotEq).2.1 u) (fun r s' => ∃ v, r = some v ∧ EP X pins σ Q v s') X.xe s := by
        unfold tryCompare
        refine wpAny_bind (ifBound_objNe XK J hn1 ?_)
        refine wpAny_call (codeAny_call_builtin PySem.F.cmp_object.ne.plain PySem.F.cmpEntry_ne (check_slot PySem.F.cmpKind_ne PySem.F.cmpSplit_ne (J.type.andThen (looks_mroIn XK hm)) (PySem.F.cmpArgs_ne _ _) ?_))
        unfold Builtin.«object.__ne__»
        refine wpAny_bind (wpAny_of_eq (a := (Value.ref ad, [u])) rfl ?_)
        refine wpAny_bind (wpAny_cRoomFor hr1.units0 ?_)
        refine wpAny_bind (ifBound_K XK J h2.at_ h2.fn (wpAny_mono (wpAny_call (run_fd (us := [.ref ad, u]) (vs := [.ref ad, y]) h3 hr1 I.env0.in1 tk I at_ (.cons rfl (.cons ry .nil)) (RepL.cons ra (RepL.cons rb RepL.nil)) r (fun xx w' c' d' z n rxx => z w' c' d' rfl n rxx))) (fun w' s' z => ?_) fun _ _ x => x))
        obtain ⟨z', d', w2, I', n2, rz, rd2, q2⟩ := z
        cases d' <;> first | exact q2.elim | skip
        rename_i c'
        unfold Rep at rd2; subst rd2
        cases (show w' = Value.bool c' from rz)
        refine wpAny_bind (wpAny_truthy_bool ?_)
        refine wpAny_pure ?_
        exact wpAny_pure ⟨_, rfl, .bl (!c'), w2.H, I', rfl, q2 w2 _ rfl n2 rBl⟩
      unfold richCompare
      simp only [oneThing_ref]
      refine wpAny_holding (wpAny_bind (wpAny_cRoomFor hr.units0 ?_))
      refine wpAny_bind (J.type.here (wpAny_bind (LT.here ?_)))
      split
      · rename_i q2
        have e : subIn X.K (vTy X.K t) (.ref (He.ga X.K c)) = some false := by
          rcases Bool.or_eq_true_iff.mp hn with e | e
          · rw [beq_iff_eq.mp e] at q2; simp at q2
          · exact beq_iff_eq.mp e
        refine wpAny_bind ((looks_subIn XK e).here ?_)
        simp only [Bool.false_eq_true, if_false]
        refine wpAny_bind (wpAny_mono one (fun r s' z => ?_) fun _ _ e => e)
        obtain ⟨v, rfl, hq⟩ := z
        exact wpAny_pure hq
      · refine wpAny_bind (wpAny_pure ?_)
        simp only [Bool.false_eq_true, if_false]
        refine wpAny_bind (wpAny_mono one (fun r s' z => ?_) fun _ _ e => e)
        obtain ⟨v, rfl, hq⟩ := z
        exact wpAny_pure hq
    · exact J2.no
  · exact hb a b
end
end Dn

namespace Dn
open PySem PySem.W PySem.Spec PyProof.Rows L2 TL Bits An
section
variable {K : Frag} {w0 w w1 : Wd} {W : WX} {X : Cx} {ρ : Rh} {σ : L2.St} {pins : List (Addr × Obj)} {s : Shared} {pos p apos : Pos} {tg : Expr} {k : Nat}
theorem slot_some {i : Nat} {t : Sl} {v : V} (g : Good K w0 w ρ σ) (e : ρ[i]? = some t) (h : σ[i]?.join = some v) : σ[i]? = some (some v) := by
  cases q : σ[i]? with
  | none => rw [q] at h; cases h
  | some o => rw [q] at h; exact congrArg some h
theorem Good.put {i : Nat} {t t' : Sl} {a : Addr} {o : HO} (g : Good K w0 w ρ σ) (e : ρ[i]? = some t) (ho : t.own = true) (ha : σ[i]? = some (some (.ref a))) (hf : w.F a = none) (hs : SlotOk K w0 (w.put a o) t' (some (.ref a))) (ho' : t'.own = true) : Good K w0 (w.put a o) (ρ.set i t') σ := by
  have hl : i < ρ.length := (List.getElem?_eq_some_iff.mp e).1
  have look : ∀ {j : Nat} {u : Sl}, (ρ.set i t')[j]? = some u → (j = i ∧ u = t') ∨ (j ≠ i ∧ ρ[j]? = some u) := fun {j u} q => by
    by_cases h : j = i
    · subst h
      rw [List.getElem?_set_self hl] at q
      cases q
      exact .inl ⟨rfl, rfl⟩
    · rw [List.getElem?_set_ne (Ne.symm h)] at q
      exact .inr ⟨h, q⟩
  refine ⟨by rw [List.length_set]; exact g.len, fun j u q => ?_, fun j l u v x hjl qj ql oj ol => ?_⟩
  · rcases look q with ⟨rfl, rfl⟩ | ⟨hj, q⟩
    · rw [ha]; exact hs
    · have hh := g.at_ j u q
      have keep : ∀ b, u.own = true → σ[j]? = some (some (.ref b)) → b ≠ a := fun b ou eb z => by
        subst z
        exact g.ne j i u t b hj q e ou ho eb ha
      cases u with
      | un => trivial
      | ex _ => trivial
      | fn => exact hh
      | sh d => exact hh
      | ol ds =>
        obtain ⟨b, vs, h1, h2, h3⟩ := hh
        have hb := keep b rfl (slot_some g q h1)
        exact ⟨b, vs, h1, by show upd w.H a o b = _; rw [upd_ne hb]; exact h2, h3⟩
      | oi c ns ds =>
        obtain ⟨b, dx, vs, h0, h1, h2, h3⟩ := hh
        have hb := keep b rfl (slot_some g q h1)
        exact ⟨b, dx, vs, h0, h1, by show upd w.H a o b = _; rw [upd_ne hb]; exact h2, h3⟩
  · have old : ∀ {j : Nat} {u : Sl}, (ρ.set i t')[j]? = some u → u.own = true → ∃ u', ρ[j]? = some u' ∧ u'.own = true := fun {j u} q ou => by
      rcases look q with ⟨rfl, rfl⟩ | ⟨_, q⟩
      · exact ⟨t, e, ho⟩
      · exact ⟨u, q, ou⟩
    obtain ⟨u', q1, o1⟩ := old qj oj
    obtain ⟨v', q2, o2⟩ := old ql ol
    exact g.ne j l u' v' x hjl q1 q2 o1 o2
def rdI (i : Nat) (c f : Str) (ρ : Rh) : M D := match ρ[i]? with
  | some (.oi c' ns ds) => need (c' = c) (fldOf f ns ds)
  | _ => fail
def sFldI (i : Nat) (c f : Str) (e : Rh → M D) : Sm := fun ρ S D => e ρ S (fun d S' => match ρ[i]? with
  | some (.oi c' ns ds) => c' = c ∧ ns.contains f = false ∧ ns.length < 900 ∧ D.nx (ρ.set i (.oi c (ns ++ [f]) (ds ++ [d]))) S'
  | _ => False) (D.ex · ρ ·)
theorem zip_snoc {ns : List Str} {vs : List V} {f : Str} {v : V} (h : ns.length = vs.length) : ns.zip vs ++ [(f, v)] = (ns ++ [f]).zip (vs ++ [v]) := by
  rw [List.zip_append h]; rfl
theorem ds_selfF {i : Nat} {x c f : Str} {px pos' : Pos} {value : Expr} {m : Rh → M D} (hc : Cls K (He.ga K c)) (hn : NoAttr K (He.ga K c) f) (hv : DE K w0 W X value m) (hN : X.N[i]? = some x := by rfl) (hvx : Vis X.env.scope x := by first | exact Or.inl rfl | exact Or.inr (Or.inl rfl) | exact Or.inr (Or.inr rfl)) (hK : X.K = K := by rfl)
    (hs : swapsWith value (some (.Attribute (.Name x px) f pos')) pos.line X.env = pure false := by rfl) (hd : (x == ("__debug__" : Str)) = false := by decide) (hcd : (x == ("__classdict__" : Str)) = false := by decide) : DS K w0 W X (.Assign [.Attribute (.Name x px) f pos'] value pos) (sFldI i c f m) := by
  subst hK
  refine .mk' (fun ρ S D D' h1 h2 h3 h4 h5 q => hv.mono ρ _ _ _ _ _ (fun d S' q => ?_) (fun x S' => h5 x ρ S') q) fun pins s σ ρ w D I at_ r hE => ?_
  · split at q
    · exact ⟨q.1, q.2.1, q.2.2.1, h1 _ _ q.2.2.2⟩
    · exact q.elim
  · refine plainObj_wpAny_Assign_Attribute (thn (hv.raw I at_ r (hE.e ρ σ)) ?_) hs
    rintro u s1 ⟨y, d, w1, I1, n1, ry, rd, q⟩
    split at q
    · rename_i c' ns ds e
      obtain ⟨rfl, q1, q2, q⟩ := q
      obtain ⟨a, dx, vs, h0, h1, h2, h3, h4, h5, h6, h7⟩ := n1.at_.good.at_ i _ e
      have hsl := slot_some n1.at_.good e h1
      refine thn ((pe_var (pos := px) hN hvx hd hcd).run pins s1 σ w1.H (fun v H => v = .ref a ∧ H = w1.H) I1 ⟨.ref a, hsl, rfl, rfl⟩) ?_
      rintro ov s2 ⟨v, H2, I2, rv, rfl, rfl⟩
      obtain rfl : ov = Value.ref a := rv
      refine setattr_ok I2 h2 hc hn (by rw [List.length_zip]; omega) ry fun s3 I3 => ?_
      rw [putF_new (lookup_none q1), zip_snoc h6] at I3
      have hw : Step X.K w0 (w1.put a (.ins (He.ga X.K c') dx ((ns ++ [f]).zip (vs ++ [y])))) := n1.at_.st.putNew h5 h3 h4
      refine ⟨_, σ, w1.put a _, I3, ⟨⟨hw, n1.at_.good.put (t' := .oi c' (ns ++ [f]) (ds ++ [d])) e rfl hsl h3 ⟨a, dx, vs ++ [y], h0, rfl, upd_same, h3, h4, h5, by rw [List.length_append, List.length_append, h6]; rfl, h7.append (RepL.cons rd RepL.nil)⟩ rfl⟩, n1.le⟩, q⟩
    · exact q.elim
def sOwn (i : Nat) (m : Rh → M (List D)) : Sm := fun ρ S D => m ρ S (fun ds S' => ds.length ≤ sizeLine ∧ D.nx (ρ.set i (.ol ds)) S') (D.ex · ρ ·)
def sApp (i : Nat) (e : Rh → M D) : Sm := fun ρ S D => match ρ[i]? with
  | some (.ol ds) => e ρ S (fun d S' => ds.length < sizeLine ∧ D.nx (ρ.set i (.ol (ds ++ [d]))) S') (D.ex · ρ ·)
  | _ => False
def sFrz (i : Nat) (m : Sm) : Sm := fun ρ S D => match ρ[i]? with
  | some (.ol ds) => m (ρ.set i (.sh (.lst ds))) S D
  | _ => m ρ S D
theorem At.frz {i : Nat} {ds : List D} (at_ : At K w0 w ρ σ) (e : ρ[i]? = some (.ol ds)) : ∃ a vs, (w.H a = some (.lst vs) ∧ w.F a = none ∧ ¬ w.C a) ∧ At K w0 (w.frz a (.lst vs)) (ρ.set i (.sh (.lst ds))) σ ∧ Gle w.toGd (w.frz a (.lst vs)).toGd := by
  obtain ⟨a, vs, h1, h2, h3, h4, h5, h6⟩ := at_.good.at_ i _ e
  have hsl := slot_some at_.good e h1
  have le := gle_frz (o := .lst vs) h3
  have st := at_.st.frz h5 h2 h3 h4
  refine ⟨a, vs, ⟨h2, h3, h4⟩, ⟨st, ?_⟩, le⟩
  have g := at_.good
  have hl : i < ρ.length := (List.getElem?_eq_some_iff.mp e).1
  have look : ∀ {j : Nat} {u : Sl}, (ρ.set i (.sh (.lst ds)))[j]? = some u → (j = i ∧ u = .sh (.lst ds)) ∨ (j ≠ i ∧ ρ[j]? = some u) := fun {j u} q => by
    by_cases h : j = i
    · subst h
      rw [List.getElem?_set_self hl] at q
      cases q
      exact .inl ⟨rfl, rfl⟩
    · rw [List.getElem?_set_ne (Ne.symm h)] at q
      exact .inr ⟨h, q⟩
  refine ⟨by rw [List.length_set]; exact g.len, fun j u q => ?_, fun j l u v x hjl qj ql oj ol => ?_⟩
  · rcases look q with ⟨rfl, rfl⟩ | ⟨hj, q⟩
    · refine ⟨.ref a, h1, ?_⟩
      unfold Rep
      exact ⟨a, vs, rfl, .inl upd_same, RepL.le le _ h6⟩
    · have hh := g.at_ j u q
      have keep : ∀ b, u.own = true → σ[j]? = some (some (.ref b)) → b ≠ a := fun b ou eb z => by
        subst z
        exact g.ne j i u _ b hj q e ou rfl eb hsl
      cases u with
      | un => trivial
      | fn => exact hh
      | ex y => obtain ⟨a', c, d, k1, k2, k3⟩ := hh; exact ⟨a', c, d, k1, k2, k3.le le⟩
      | sh d => obtain ⟨v, k1, k2⟩ := hh; exact ⟨v, k1, Rep.le le _ k2⟩
      | ol ds' =>
        obtain ⟨b, vs', k1, k2, k3, k4, k5, k6⟩ := hh
        have hb := keep b rfl (slot_some g q k1)
        exact ⟨b, vs', k1, k2, by show upd w.F a _ b = none; rw [upd_ne hb]; exact k3, k4, k5, RepL.le le _ k6⟩
      | oi c ns ds' =>
        obtain ⟨b, dx, vs', k0, k1, k2, k3, k4, k5, k6, k7⟩ := hh
        have hb := keep b rfl (slot_some g q k1)
        exact ⟨b, dx, vs', k0, k1, k2, by show upd w.F a _ b = none; rw [upd_ne hb]; exact k3, k4, k5, k6, RepL.le le _ k7⟩
  · have old : ∀ {j : Nat} {u : Sl}, (ρ.set i (.sh (.lst ds)))[j]? = some u → u.own = true → ρ[j]? = some u := fun {j u} q ou => by
      rcases look q with ⟨rfl, rfl⟩ | ⟨_, q⟩
      · cases ou
      · exact q
    exact g.ne j l u v x hjl (old qj oj) (old ql ol) oj ol
end
end Dn

namespace Dn
open PySem PySem.W PySem.Spec PyProof.Rows L2 TL Bits An
section
variable {K : Frag} {w0 w w1 : Wd} {W : WX} {X : Cx} {ρ : Rh} {σ : L2.St} {pins : List (Addr × Obj)} {s : Shared} {pos p apos : Pos} {tg : Expr} {k : Nat}
def scal1 : D → M D
  | .int i => ret (.int i)
  | .bl i => ret (.bl i)
  | .str i => ret (.str i)
  | .non => ret .non
  | _ => fail
def eLend (i : Nat) (m : Rh → M D) : Rh → M D := fun ρ => match ρ[i]? with
  | some (.ol ds) => noex (bind (m (ρ.set i (.sh (.lst ds)))) scal1)
  | _ => m ρ
def eIxO (i : Nat) (b : Rh → M D) : Rh → M D := fun ρ => match ρ[i]? with
  | some (.ol ds) => bind (b ρ) fun j => ixD (.lst ds) j
  | _ => fail
theorem ds_par {i j : Nat} {x y : Str} {a b : Expr} {m : Rh → M (List D)} {px py pt : Pos} {kt k2 pt2} (hc : X.calm = true) (hN : X.N.Nodup) (hi : X.N[i]? = some x) (hj : X.N[j]? = some y) (hij : i ≠ j)
    (hx : X.env.scope.names.lookup x = some .local) (hy : X.env.scope.names.lookup y = some .local) (ha : DA K w0 W X [a, b] m)
    (hw : swappedStores [.Tuple [.Name x px, .Name y py] kt pt] (.Tuple [a, b] k2 pt2) X.env = pure (some [x, y]) := by rfl)
    (hs : swapsWithSole [.Tuple [.Name x px, .Name y py] kt pt] (.Tuple [a, b] k2 pt2) pos.line X.env = pure false := by rfl) :
    DS K w0 W X (.Assign [.Tuple [.Name x px, .Name y py] kt pt] (.Tuple [a, b] k2 pt2) pos) (sPar i j m) := by
  refine .mk' (fun ρ S D D' h1 h2 h3 h4 h5 q => ha.mono ρ _ _ _ _ _ (fun ds S' q => ?_) (fun x S' => h5 x ρ S') q) fun pins s σ ρ w D I at_ r hE => ?_
  · split at q
    · exact h1 _ _ q
    · exact q.elim
  · refine thn ((ps_par hc hN hi hj hij hx hy ha.pa hw hs).run pins s σ w.H (endsV K w0 w D) I ?_) fun _ _ => sp_got
    refine ⟨w, ρ, rfl, at_, ha.mono ρ _ _ _ _ _ (fun ds S' q w' vs e n rl => ?_) (fun x S' q w' c d e n rx => hE x ρ w' σ c d (by rw [e]; exact q) n.nw rx) r⟩
    split at q
    · rename_i d1 d2
      obtain ⟨v, u, rfl, r1, r2⟩ := rl.inv2
      exact ⟨v, u, rfl, _, w', rfl, ⟨(n.at_.set r1).set r2, n.le⟩, by rw [e]; exact q⟩
    · exact q.elim
def sAug (i : Nat) (f : D → D → M D) (e : Rh → M D) : Sm := fun ρ S D => bind (rd i ρ) (fun x => bind (e ρ) fun y => f x y) S (fun d S' => D.nx (ρ.set i (.sh d)) S') (D.ex · ρ ·)
def iaddD : D → D → M D
  | .int i, .int j => ret (.int (i + j))
  | _, _ => fail
def flatD : D → Bool
  | .non => true
  | .bl _ => true
  | .int _ => true
  | .str _ => true
  | _ => false
def eqF : D → D → Bool
  | .non, .non => true
  | .bl a, .bl b => a == b
  | .bl a, .int b => (if a then 1 else 0) == b
  | .int a, .bl b => a == (if b then 1 else 0)
  | .int a, .int b => a == b
  | .str a, .str b => a == b
  | _, _ => false
def inF (x : D) (xs : List D) : Bool := xs.any fun y => eqF y x
def inStr (a b : Str) : Bool := match a.cps.toList with
  | [c] => decide (c ∈ b.cps.toList)
  | _ => !(Builtin.Str.occurrences b a 0 b.length 1).isEmpty
def inD (neg : Bool) (x y : D) : M D := match y with
  | .str b => (match x with
    | .str a => ret (.bl (xor neg (inStr a b)))
    | _ => fail)
  | .lst ys => need (flatD x = true ∧ ys.all flatD = true) (ret (.bl (xor neg (inF x ys))))
  | .tup ys => need (flatD x = true ∧ ys.all flatD = true) (ret (.bl (xor neg (inF x ys))))
  | _ => fail
theorem flat_rep {G : Gd} {d : D} {v : V} (r : Rep K G d v) (h : flatD d = true) : flatV v = true := by
  cases d <;> first | (cases h; done) | (unfold Rep at r; subst r; rfl)
theorem flats_rep {G : Gd} : ∀ {ds : List D} {vs : List V}, RepL K G ds vs → ds.all flatD = true → vs.all flatV = true
  | [], _, r, _ => by unfold RepL at r; subst r; rfl
  | d :: ds, _, r, h => by
    unfold RepL at r
    obtain ⟨v, vr, rfl, r1, r2⟩ := r
    rw [List.all_cons, Bool.and_eq_true] at h ⊢
    exact ⟨flat_rep r1 h.1, flats_rep r2 h.2⟩
theorem eqF_rep {G : Gd} {a b : D} {x y : V} (ra : Rep K G a x) (rb : Rep K G b y) (ha : flatD a = true) (hb : flatD b = true) : eqV x y = eqF a b := by
  cases a <;> first | (cases ha; done) | skip
  all_goals (cases b <;> first | (cases hb; done) | skip)
  all_goals (unfold Rep at ra rb; subst ra rb; rfl)
theorem inF_rep {G : Gd} {a : D} {x : V} (ra : Rep K G a x) (ha : flatD a = true) : ∀ {ds : List D} {vs : List V}, RepL K G ds vs → ds.all flatD = true → inV x vs = inF a ds
  | [], _, r, _ => by unfold RepL at r; subst r; rfl
  | d :: ds, _, r, h => by
    unfold RepL at r
    obtain ⟨v, vr, rfl, r1, r2⟩ := r
    rw [List.all_cons, Bool.and_eq_true] at h
    show (eqV v x || inV x vr) = (eqF d a || inF a ds)
    rw [eqF_rep r1 ra h.1 ha, inF_rep ra ha r2 h.2]
theorem j_in (hK : X.K = K := by rfl) : J2A K w0 W X (compareOp .In) (inD false) := fun a b => by
  subst hK
  cases b <;> first | exact J2.no | skip
  case str z =>
    cases a <;> first | exact J2.no | skip
    rename_i y
    show J2 X.K w0 W X (compareOp .In) (.str y) (.str z) (ret (.bl (xor false (inStr y z))))
    rw [Bool.false_xor]
    have hor : OpR X (compareOp .In) _ := op_in_sign.or op_in_str
    refine J2.of hor mono_ret fun σ ρ w x u Q at_ ra rb r => ?_
    unfold Rep at ra rb; subst ra rb
    unfold inStr at r
    split at r
    · rename_i c e
      have ey : y = ⟨#[c]⟩ := by
        obtain ⟨cps⟩ := y
        have : cps = #[c] := by
          have h2 : cps.toList = [c] := e
          rw [← Array.toArray_toList (xs := cps), h2]
        rw [this]
      exact .inl ⟨c, z, by rw [ey], rfl, Run.fin at_ r rBl⟩
    · exact .inr ⟨y, z, rfl, rfl, Run.fin at_ r rBl⟩
  case lst ys =>
    show J2 X.K w0 W X (compareOp .In) a (.lst ys) (need (flatD a = true ∧ ys.all flatD = true) (ret (.bl (xor false (inF a ys)))))
    rw [Bool.false_xor]
    refine J2.of op_in_seq (mono_need mono_ret) fun σ ρ w x u Q at_ ra rb r => ?_
    obtain ⟨p, vs, rfl, h1, h2, _⟩ := rep_lst at_.st.ok rb
    obtain ⟨⟨c1, c2⟩, r⟩ := Run.need r
    exact ⟨p, vs, rfl, .inl h1, flat_rep ra c1, flats_rep h2 c2, by rw [if_neg Bool.false_ne_true, inF_rep ra c1 h2 c2]; exact Run.fin at_ r rBl⟩
  case tup ys =>
    show J2 X.K w0 W X (compareOp .In) a (.tup ys) (need (flatD a = true ∧ ys.all flatD = true) (ret (.bl (xor false (inF a ys)))))
    rw [Bool.false_xor]
    refine J2.of op_in_seq (mono_need mono_ret) fun σ ρ w x u Q at_ ra rb r => ?_
    obtain ⟨p, vs, rfl, h1, h2⟩ := rep_tup at_.st.ok rb
    obtain ⟨⟨c1, c2⟩, r⟩ := Run.need r
    exact ⟨p, vs, rfl, .inr h1, flat_rep ra c1, flats_rep h2 c2, by rw [if_neg Bool.false_ne_true, inF_rep ra c1 h2 c2]; exact Run.fin at_ r rBl⟩
end
end Dn

namespace Dn
open PySem PySem.W PySem.Spec PyProof.Rows L2 TL Bits An
section
variable {K : Frag} {w0 w w1 : Wd} {W : WX} {X : Cx} {ρ : Rh} {σ : L2.St} {pins : List (Addr × Obj)} {s : Shared} {pos p apos kpos : Pos} {tg : Expr} {k : Nat}
structure DK (K : Frag) (w0 : Wd) (W : WX) (X : Cx) (kws : List Keyword) (m : Rh → M (List D)) : Prop where
  mono : ∀ ρ, Mono (m ρ)
  run : ∀ (pos : Pos) (pins : List (Addr × Obj)) (s : Shared) (σ : L2.St) (ρ : Rh) (w : Wd) (Qd : List D → Sv → Prop) (Ed : Xn → Sv → Prop), Inv X pins σ w.H s → At K w0 w ρ σ → m ρ w.S Qd Ed → ExcE K w0 W w ρ σ Ed →
    wpAny (model X.prog X.w) X.A (evalAll ((backToKw pos (keywordEach kws X.env)).map (·.2))) (GotA K w0 X pins σ ρ w Qd) X.xe s
structure BindK (K : Frag) (fd : FuncData) (ps : List Str) (n : Nat) (ks : List Str) (gD : List D → List D → List D) : Prop where
  ex : ∃ (g : List Value → List Value → List Value) (gV : List V → List V → List V), KBn K fd ps n ks g gV ∧ ∀ (G : Gd) (vs zs : List V) (ds es : List D), vs.length = n → zs.length = ks.length → RepL K G ds vs → RepL K G es zs → RepL K G (gD ds es) (gV vs zs)
structure BindI (K : Frag) (fd : FuncData) (ps : List Str) (n : Nat) (ks : List Str) (gD : List D → List D → List D) : Prop where
  ex : ∃ (g : List Value → List Value → List Value) (gV gW : List V → List V → List V), KBn K fd ps (n + 1) ks g gV ∧ ∀ (a : Addr) (vs zs : List V), vs.length = n → zs.length = ks.length → gV (.ref a :: vs) zs = .ref a :: gW vs zs ∧ ∀ (G : Gd) (ds es : List D), RepL K G ds vs → RepL K G es zs → RepL K G (gD ds es) (gW vs zs)
def eCK (n m : Nat) (gD : List D → List D → List D) (F : List D → M D) (a kk : Rh → M (List D)) : Rh → M D := fun ρ => bind (a ρ) fun ds => bind (kk ρ) fun es => need (ds.length = n ∧ es.length = m) (F (gD ds es))
structure CGK (P : Program) (wd : World) (K : Frag) (mg : Str → Option Value) (base : Heap) (k : Nat) (x : Str) (n : Nat) (ks : List Str) (gD : List D → List D → List D) (Fi : List D → M (List Str × List D)) : Prop where
  ex : ∃ fd ps, FnOk P wd K mg base (L2.CX P wd) k (He.ma K (He.ga K x) "__init__") fd ps (spI K x Fi) ∧ BindI K fd ps n ks gD
  mkr : Mk K (He.ga K x) (He.ma K (He.ga K x) "__init__")
  gl : mg x = some (.ref (He.ga K x))
  mono : ∀ ds, Mono (Fi ds)
structure FGK (P : Program) (wd : World) (K : Frag) (mg : Str → Option Value) (base : Heap) (k : Nat) (x : Str) (n : Nat) (ks : List Str) (gD : List D → List D → List D) (F : List D → M D) : Prop where
  ex : ∃ fd ps, FnOk P wd K mg base (L2.CX P wd) k (He.ga K x) fd ps (spD K F) ∧ BindK K fd ps n ks gD
  kp : PySem.W.keepIn K (.ref (He.ga K x)) = true
  gl : mg x = some (.ref (He.ga K x))
  mono : ∀ ds, Mono (F ds)
def srcM (ds : List D) : M D := match ds with
  | [.int _, .int _, .int _] => ret .src
  | _ => fail
theorem mono_srcM {ds : List D} : Mono (srcM ds) := by unfold srcM; split <;> first | exact mono_ret | exact mono_fail
theorem de_lstS {es : List Expr} {m : Rh → M (List D)} (h : DA K w0 W X es m) : DE K w0 W X (.List es pos) (fun ρ => bind (m ρ) srcM) := by
  refine ⟨fun ρ => mono_bind (h.mono ρ) fun _ => mono_srcM, ⟨fun pins s σ H Q I hh => ?_⟩⟩
  obtain ⟨w, ρ, rfl, at_, r⟩ := hh
  refine wpAny_List_spliced (thn (h.pa.run pos pins s σ w.H (fun vs H1 => ∃ ds w1, w1.H = H1 ∧ Nx K w0 w w1 ρ σ ∧ RepL K w1.toGd ds vs ∧ Run K w0 W (Rep K) σ ρ w1 (srcM ds) Q) I ⟨w, ρ, rfl, at_, ?_⟩) ?_)
  · refine h.mono ρ _ _ _ _ _ (fun ds S' q w1 vs e n1 rds => ⟨ds, w1, rfl, n1, rds, ?_⟩) (fun x S' q => q) r
    subst e
    exact mono_srcM _ _ _ _ _ (fun a S'' q' w'' v' e n' r' => q' w'' v' e (n1.trans n') r') (fun x S'' q' w'' c d' e n' r' => q' w'' c d' e (n1.trans n') r') q
  · rintro us s1 ⟨vs, H1, I1, rv, ds, w1, rfl, n1, rds, q⟩
    unfold srcM at q
    split at q
    · rename_i x y z
      obtain ⟨v1, t1, rfl, h1, rds⟩ := (by unfold RepL at rds; exact rds : ∃ v r, vs = v :: r ∧ Rep K w1.toGd (.int x) v ∧ RepL K w1.toGd [.int y, .int z] r)
      obtain ⟨v2, t2, rfl, h2, rds⟩ := (by unfold RepL at rds; exact rds : ∃ v r, t1 = v :: r ∧ Rep K w1.toGd (.int y) v ∧ RepL K w1.toGd [.int z] r)
      obtain ⟨v3, t3, rfl, h3, rds⟩ := (by unfold RepL at rds; exact rds : ∃ v r, t2 = v :: r ∧ Rep K w1.toGd (.int z) v ∧ RepL K w1.toGd [] r)
      unfold RepL at rds
      unfold Rep at h1 h2 h3
      subst rds h1 h2 h3
      have hlen := rv.length
      obtain ⟨u1, u2, u3, rfl⟩ : ∃ u1 u2 u3, us = [u1, u2, u3] := by
        match us, hlen with
        | [a, b, c], _ => exact ⟨a, b, c, rfl⟩
      have e1 := rv.get (i := 0) (x := .int x) rfl
      have e2 := rv.get (i := 1) (x := .int y) rfl
      have e3 := rv.get (i := 2) (x := .int z) rfl
      obtain ⟨w1', h1, t1, rfl⟩ := e1
      obtain ⟨w2', h2, t2, rfl⟩ := e2
      obtain ⟨w3', h3, t3, rfl⟩ := e3
      cases (Option.some.inj h1)
      cases (Option.some.inj h2)
      cases (Option.some.inj h3)
      have hf : w1.H s1.heap.objs.size = none := I1.fresh
      refine ⟨by show 3 ≤ sizeLine; decide, .ref s1.heap.objs.size, _, I1.laid (t' := s1.toks) (a := s1.heap.objs.size) (o := .ext (srcP s1.heap.objs.size)) (fun b u e => Heap.get?_push_of_some _ e) (Nat.le_refl _) ?_, rfl, ?_⟩
      · exact ⟨⟨x, y, z, t1, t2, t3, _, Heap.get?_push_size _ rfl⟩, ⟨_, Heap.get?_push_size _ rfl⟩, srcP_keep _⟩
      · refine Run.new n1.at_ q hf ?_
        unfold Rep
        exact ⟨_, rfl, upd_same⟩
    · exact q.elim
def sSrc (o i e : Rh → M D) : Sm := fun ρ S D => e ρ S (fun v S1 => o ρ S1 (fun x S2 => i ρ S2 (fun y S3 => match x, y, v with
  | .src, .int k, .int _ => (0 ≤ k ∧ k < 3) ∧ D.nx ρ S3
  | _, _, _ => False) (D.ex · ρ ·)) (D.ex · ρ ·)) (D.ex · ρ ·)
theorem ds_setSrc {o i e : Expr} {mo mi me : Rh → M D} {p2 : Pos} (he : DE K w0 W X e me) (ho : DE K w0 W X o mo) (hi : DE K w0 W X i mi)
    (ha : ∀ v, assign (.Subscript o i p2) X.env v = (do
      let ov ← holding [v] (eval o X.env)
      let iv ← holding [v, ov] (eval i X.env)
      standAt p2
      holding [v, ov, iv] (setItem ov iv v)
      release [v, ov, iv] []) := by intro _; rfl)
    (hs : swapsWithSole [.Subscript o i p2] e pos.line X.env = pure false := by rfl) (hw : swappedStores [.Subscript o i p2] e X.env = pure none := by rfl)
    (h1 : (assignEach [.Subscript o i p2] X.env).map (·.2) = [assign (.Subscript o i p2) X.env] := by rfl) : DS K w0 W X (.Assign [.Subscript o i p2] e pos) (sSrc mo mi me) := by
  refine .mk' ?_ fun pins s σ ρ w D I at_ r hE => wpAny_Assign_stores (thn (he.raw I at_ r (hE.e ρ σ)) ?_) hs hw
  · intro ρ S D D' q1 q2 q3 q4 q5 h
    refine he.mono ρ _ _ _ _ _ (fun v S1 h => ho.mono ρ _ _ _ _ _ (fun x S2 h => hi.mono ρ _ _ _ _ _ (fun y S3 h => ?_) (fun x S' => q5 x ρ S') h) (fun x S' => q5 x ρ S') h) (fun x S' => q5 x ρ S') h
    split at h
    · exact ⟨h.1, q1 _ _ h.2⟩
    · exact h.elim
  rintro u s1 ⟨v, d, w1, I1, n1, rv, rd, q⟩
  rw [h1]
  suffices hh : wpAny (model X.prog X.w) X.A (assign (.Subscript o i p2) X.env u) (fun _ s' => GotS K w0 X pins w D .next s') X.xe s1 from thn hh fun _ _ q => q
  rw [ha]
  refine wpAny_bind (wpAny_holding (thn (ho.raw I1 n1.at_ q ((hE.nw n1.nw).e ρ σ)) ?_))
  rintro ov s2 ⟨x, dx, w2, I2, n2, rx, rdx, q⟩
  refine wpAny_bind (wpAny_holding (thn (hi.raw I2 n2.at_ q ((hE.nw (n1.trans n2).nw).e ρ σ)) ?_))
  rintro iv s3 ⟨y, dy, w3, I3, n3, ry, rdy, q⟩
  obtain ⟨kk, jj, rfl, rfl, rfl, q1, q2⟩ : ∃ kk jj : Int, dx = .src ∧ dy = .int kk ∧ d = .int jj ∧ (0 ≤ kk ∧ kk < 3) ∧ D.nx ρ w3.S := by
    split at q
    · exact ⟨_, _, rfl, rfl, rfl, q⟩
    · exact q.elim
  unfold Rep at rdx rdy rd
  obtain ⟨a, rfl, hS⟩ := rdx
  subst rdy rd
  refine wpAny_bind (wpAny_standAt (wpAny_bind (wpAny_holding (thn (set_src pins s3 σ w3.H _ _ _ ov iv u (fun H => H = w3.H) I3 rx ry rv ⟨a, kk, jj, rfl, rfl, rfl, n3.at_.st.ok.le _ _ (n3.st.f _ _ hS), q1, rfl⟩) ?_))))
  rintro _ s4 ⟨H4, I4, rfl⟩
  exact wpAny_release ⟨ρ, σ, w3, I4, ((n1.trans n2).trans n3).nw, q2⟩
def sIfW (i : Nat) (f : D → D → M D) (e b : Rh → M D) (ma mb : Sm) : Sm := fun ρ S D => e ρ S (fun d S1 => bind (b (ρ.set i (.sh d))) (fun y => bind (f d y) asB) S1 (fun k S2 => iteP k (ma (ρ.set i (.sh d)) S2 D) (mb (ρ.set i (.sh d)) S2 D)) (D.ex · (ρ.set i (.sh d)) ·)) (D.ex · ρ ·)
theorem ds_ifW {i : Nat} {x : Str} {op : CmpOp} {e b : Expr} {p1 p2 : Pos} {me mb : Rh → M D} {f : D → D → M D} {u v : List Stmt} {mu mv : Sm} (hN : X.N.Nodup) (hi : X.N[i]? = some x) (hx : Loc X.env.scope x) (hf : J2A K w0 W X (compareOp op) f) (he : DE K w0 W X e me) (hb : DE K w0 W X b mb) (hu : DSs K w0 W X u mu) (hv : DSs K w0 W X v mv)
    (hm : behindInMarks op b = false := by first | exact nomark _ | rfl) (hfn : X.fn x = true ∨ X.env.scope.names.lookup x = some .local := by first | exact .inl rfl | exact .inr rfl | assumption) :
    DS K w0 W X (.If (.Compare (.NamedExpr (.Name x p) e p1) [op] [b] p2) u v pos) (sIfW i f me mb mu mv) := by
  refine .mk' ?_ fun pins s σ ρ w D I at_ r hE => wpAny_If (wpAny_isTrue_Compare1 (wpAny_NamedExpr (thn (he.raw I at_ r (hE.e ρ σ)) ?_)) hm)
  · intro ρ S D D' q1 q2 q3 q4 q5 h
    refine he.mono ρ _ _ _ _ _ (fun d S1 h => ?_) (fun x S' => q5 x ρ S') h
    refine mono_bind (hb.mono _) (fun y => mono_bind (hf d y).mono fun r => mono_asB) _ _ _ _ _ (fun k S2 h => ?_) (fun x S' => q5 x _ S') h
    cases k with
    | true => exact ⟨fun _ => hu.mono _ _ _ _ q1 q2 q3 q4 q5 (h.1 rfl), fun z => by cases z⟩
    | false => exact ⟨fun z => (by cases z), fun _ => hv.mono _ _ _ _ q1 q2 q3 q4 q5 (h.2 rfl)⟩
  rintro ue s1 ⟨ve, d, w1, I1, n1, rv, rd, q⟩
  refine wpAny_assign_Name (store_ok I1 hN hi hx rv (fun s2 I2 => ?_) hfn)
  have at2 : At K w0 w1 (ρ.set i (.sh d)) (σ.set i (some ve)) := n1.at_.set rd
  have nw2 : Nw K w0 w w1 (ρ.set i (.sh d)) (σ.set i (some ve)) := ⟨at2, n1.le⟩
  refine thn (hb.raw I2 at2 q ((hE.nw nw2).e _ _)) ?_
  rintro ub s3 ⟨vb, db, w3, I3, n3, rvb, rdb, q⟩
  have nw3 : Nw K w0 w w3 (ρ.set i (.sh d)) (σ.set i (some ve)) := nw2.trans n3.nw
  refine thn ((hf d db).raw I3 n3.at_ rv rvb (Rep.le n3.le _ rd) rdb q ((hE.nw nw3).e _ _)) ?_
  rintro uc s4 ⟨vc, dc, w4, I4, n4, rvc, rdc, q⟩
  have nw4 : Nw K w0 w w4 (ρ.set i (.sh d)) (σ.set i (some ve)) := nw3.trans n4.nw
  unfold asB at q
  split at q
  · rename_i bb
    unfold Rep at rdc
    subst rdc
    obtain rfl := rvc
    refine wpAny_truthy_bool ?_
    cases bb with
    | true => exact thn (hu.raw I4 n4.at_ (q.1 rfl) (hE.nw nw4)) fun f s2 g => g.nw nw4
    | false => exact thn (hv.raw I4 n4.at_ (q.2 rfl) (hE.nw nw4)) fun f s2 g => g.nw nw4
  · exact q.elim
end
def spLaw (K : Frag) : Sp := fun vs H Q _ => ∃ (a : Addr) (ns : List Int), vs = [.ref a] ∧ SqL K H a (ns.map V.int) ∧ ns.length ≤ 63 ∧ ∀ H', Q (.bl true) H'
theorem repL_ints {K : Frag} {G : Gd} : ∀ ns : List Int, RepL K G (ns.map .int) (ns.map V.int)
  | [] => RepL.nil
  | _ :: ns => RepL.cons (by unfold Rep; rfl) (repL_ints ns)
theorem law_of {P : Program} {wd : World} {K : Frag} {mg : Str → Option Value} {base : Heap} {st : Stmt} {f : Addr} {fd : FuncData} {N : List Str} {x : Str} {k : Nat} {code : Sm} (F : FunD K "law" "law" (defArgs st) (defBody st) (defScope st) [] [] f fd) (S : FnScope N [x] (defScope st))
    (h : ∀ (cdv : Value) (A : Around) (outer : List Env) (s : Shared) (H : Hp) (E : XK) (w0 : Wd), Room k (A.deeper (envOfC "law" (defScope st) s.heap.objs.size f cdv)) → DSs K w0 WF (cxOf L2.CX0 P wd K mg base N "law" (defScope st) f cdv A outer s H E) (defBody st) code)
    (hp : ∀ (ns : List Int), ns.length ≤ 63 → mkF 1 N.length code [.scr (ns.map .int)] [] (fun d _ => d = .bl true) (fun _ _ => False)) :
    FnOk P wd K mg base L2.CX0 (k + 1) f fd [x] (spLaw K) := by
  refine F.ok (CX := L2.CX0) S (fun vs H Q E h => by obtain ⟨a, ns, rfl, _⟩ := h; rfl) (fun cdv A outer s H vs Q E hr hh => ?_)
  obtain ⟨a, ns, rfl, hS, hl, q⟩ := hh
  have hd := h cdv A outer s H E ⟨⟨H, []⟩, H, fun _ => False, [], none, none, none, false⟩ hr
  refine ⟨_, hd.ps, ⟨⟨H, []⟩, H, fun _ => False, [], none, none, none, false⟩, startD N.length [.scr (ns.map .int)], rfl, ?_, ?_⟩
  · have ok : Wok K ⟨⟨H, []⟩, H, fun _ => False, [], none, none, none, false⟩ := ⟨fun _ _ e => e, fun _ e => e.elim, fun _ e => e.elim, rfl, fun i p c e => by simp at e, fun i j p q e => by simp at e, fun i j p q e => by simp at e, fun _ _ e => e.elim⟩
    exact ⟨Step.refl ok, good_start (RepL.cons (by unfold Rep; exact ⟨a, _, rfl, hS, repL_ints ns⟩) RepL.nil)⟩
  · refine hd.mono _ _ _ _ ?_ ?_ ?_ ?_ ?_ (hp ns hl)
    · intro ρ S e w' σ' _ _
      cases e
    · intro d S e w' v _ _ r
      subst e
      have r := r.rep rfl
      unfold Rep at r
      subst r
      exact q _
    · exact fun _ _ e => e.elim
    · exact fun _ _ e => e.elim
    · exact fun _ _ _ e => e.elim
end Dn

namespace Dn
open PySem PySem.W PySem.Spec PyProof.Rows L2 TL Bits An
section
variable {K : Frag}
def NoC (K : Frag) (c : Str) : Prop := PySem.W.findIn K (.ref (He.ga K c)) "__ne__" = some (some (.builtin "object.__ne__")) ∧ PySem.W.mroIn K (He.ga K c) (.type "object") = some true
theorem noB_ok {c : Str} (h : noB K c = true) : NoC K c := by
  unfold noB at h
  rw [Bool.and_eq_true] at h
  exact ⟨He.eqO_ok h.1, of_decide_eq_true h.2⟩
def FoC (K : Frag) (c : Str) : Prop := PySem.W.findIn K (.ref (He.ga K c)) "__format__" = some (some (.builtin "object.__format__")) ∧ PySem.W.mroIn K (He.ga K c) (.type "object") = some true
theorem foB_ok {c : Str} (h : foB K c = true) : FoC K c := by
  unfold foB at h
  rw [Bool.and_eq_true] at h
  exact ⟨He.eqO_ok h.1, of_decide_eq_true h.2⟩
theorem look_cons {α : Type} {c c' : Str} {F G : α} {tbl : List (Str × α)} (e : ((c, F) :: tbl).lookup c' = some G) : (c' = c ∧ G = F) ∨ tbl.lookup c' = some G := by
  rw [List.lookup_cons] at e
  split at e
  · rename_i h
    exact .inl ⟨by simpa using h, (Option.some.inj e).symm⟩
  · exact .inr e
theorem ne_nil : NeOk K [] := fun c F e => by simp at e
theorem ne_cons {c : Str} {F : List D → M D} {tbl : Fns} (h : NoC K c) (t : NeOk K tbl) : NeOk K ((c, F) :: tbl) := fun c' G e => by
  rcases look_cons e with ⟨rfl, _⟩ | e
  · exact h
  · exact t c' G e
theorem fm_nil : FmtOk K [] := fun c F e => by simp at e
theorem fm_cons {c : Str} {F : List D → M D} {tbl : Fns} (h : FoC K c) (t : FmtOk K tbl) : FmtOk K ((c, F) :: tbl) := fun c' G e => by
  rcases look_cons e with ⟨rfl, _⟩ | e
  · exact h
  · exact t c' G e
end
end Dn

namespace Dn
open PySem PySem.W PySem.Spec PyProof.Rows L2 TL Bits An
section
variable {K : Frag} {w0 w w1 : Wd} {W : WX} {X : Cx} {ρ : Rh} {σ : L2.St} {pins : List (Addr × Obj)} {s : Shared} {pos p apos kpos : Pos} {tg : Expr} {k : Nat}
def inB (neg : Bool) : D → M D
  | .bl b => ret (.bl (xor neg b))
  | _ => fail
def ownIn (tbl : Fns) (neg : Bool) (base : D → D → M D) (x y : D) : M D := match clsN y with
  | some c => (match tbl.lookup c with
    | some F => bind (F [y, x]) (inB neg)
    | none => fail)
  | none => base x y
def ownIx (tbl : Fns) (base : D → D → M D) (x y : D) : M D := match clsN x with
  | some c => (match tbl.lookup c with
    | some F => F [x, y]
    | none => fail)
  | none => base x y
end
end Dn

namespace Dn
open PySem PySem.W PySem.Spec PyProof.Rows L2 TL Bits An
section
variable {K : Frag} {w0 w w1 : Wd} {W : WX} {X : Cx} {ρ : Rh} {σ : L2.St} {pins : List (Addr × Obj)} {s : Shared} {pos p pos' : Pos}
def sRaise (m : Rh → M Xn) : Sm := fun ρ S D => m ρ S (fun x S' => D.ex x ρ S') (D.ex · ρ ·)
theorem mono_sRaise {m : Rh → M Xn} (h : ∀ ρ, Mono (m ρ)) : MonoS (sRaise m) := fun ρ S D D' _ _ _ _ h5 q => h ρ _ _ _ _ _ (fun x S' => h5 x ρ S') (fun x S' => h5 x ρ S') q
structure XcC (K : Frag) (x : Str) : Prop where
  ex : PySem.W.excIn K (He.ga K x) He.veBase "ValueError.__new__" = true
  kp : PySem.W.keepIn K (.ref (He.ga K x)) = true
  sub : PySem.W.subIn K (.ref (He.ga K x)) (.type "BaseException") = some true
  ty : PySem.W.typeIn K (.ref (He.ga K x)) = some (.type "type")
theorem xcB_ok {x : Str} (h : xcB K x = true) : XcC K x := by
  unfold xcB at h
  simp only [Bool.and_eq_true, decide_eq_true_eq] at h
  exact ⟨h.1, h.2.1, h.2.2.1, h.2.2.2⟩
theorem pmk0 {x : Str} (C : XcC X.K x) (hm : X.mg x = some (.ref (He.ga X.K x))) (hg : Gl X x) (hdb : (x == ("__debug__" : Str)) = false) : PMk X (.Call (.Name x p) [] [] pos') (fun _ H Q => Q (.ref (He.ga X.K x)) none H) := by
  intro ps t τ H Q J q
  refine wpAny_Call_Name_kw (ld_glob J hg hm ?_ hdb)
  refine PySem.W.callWith_K0 J.kIn C.kp ?_
  obtain ⟨b, N, n1, n2, b1, d1, s1, s2, a1, c1, d2, x0, x1, x2, x3, x5, mm, z1, z2, z3, z4⟩ := exc_obj J.kIn C.ex
  exact wpAny_call_exc_subT F.excBase_ValueError z4 z1 z2 z3 (fun h' e y => mk_of J y (raises_own C.sub C.ty) q (J.hok.gone y.new)) (by show 0 ≤ sizeLine; exact Nat.zero_le _)
theorem ds_raise0 {x : Str} (C : XcC K x) (tk : Takes X W) (hm : X.mg x = some (.ref (He.ga K x))) (hc : X.calm = true := by rfl) (hK : X.K = K := by rfl) (hg : Gl X x := by rfl) (hdb : (x == ("__debug__" : Str)) = false := by decide) :
    DS K w0 W X (.Raise (some (.Call (.Name x p) [] [] pos')) none pos) (sRaise fun _ => ret ⟨x, [], []⟩) := by
  subst hK
  refine .mk' (mono_sRaise fun _ => mono_ret) fun pins s σ ρ w D I at_ r hE => ?_
  refine thn ((ps_raise hc tk (pmk0 C hm hg hdb)).run pins s σ w.H (endsV X.K w0 w D) I ?_) fun _ _ => sp_got
  exact hE ⟨x, [], []⟩ ρ w σ _ _ r ⟨at_, Gle.refl _⟩ ⟨rfl, rfl, .inl ⟨rfl, rfl⟩⟩
structure XiC (K : Frag) (x f : Str) : Prop where
  ok : OexC K (He.ga K x)
  ini : PySem.W.findIn K (.ref (He.ga K x)) "__init__" = some (some (.ref (He.ma K (He.ga K x) "__init__")))
  ty : PySem.W.typeIn K (.ref (He.ma K (He.ga K x) "__init__")) = some (.type "function")
  no : PySem.W.findIn K (.ref (He.ga K x)) f = some none
theorem oexB_ok {C : Addr} (h : oexB K C = true) : ∃ nm q N bs bm sn sub ab col dd k0 k1 k2 k3 k5, K.lookup C = some (excClassObj nm q C N bs bm true sn sub ab col dd k0 k1 k2 k3 k5 "ValueError.__new__") ∧ PySem.HandSPX.refsVE bm = true := by
  unfold oexB at h
  split at h
  case h_2 => cases h
  rename_i dd cd sl ho
  split at h
  case h_2 => cases h
  rename_i C' bm k0 k1 k2 k3 n k5 hm hs
  simp only [Bool.and_eq_true, beq_iff_eq, Bool.not_eq_true'] at h
  obtain ⟨rfl, rfl, h1, h2, h3⟩ := h
  obtain ⟨nm, bs, mro, ns, qn, hd, sn, sub, ab, col, del⟩ := cd
  dsimp only at hm h1 h2
  subst hm h1 h2
  have e : sl = #[k0, k1, k2, k3, some (.builtin "ValueError.__new__"), k5] := by
    obtain ⟨l⟩ := sl
    simp only at hs
    rw [hs]
  subst e
  exact ⟨_, _, _, _, bm, _, _, _, _, _, _, _, _, _, _, ho, h3⟩
theorem xiB_ok {x f : Str} (h : xiB K x f = true) : XiC K x f := by
  unfold xiB at h
  simp only [Bool.and_eq_true, decide_eq_true_eq] at h
  obtain ⟨h1, h2, h3, h4, h5, h6, h7, h8⟩ := h
  exact ⟨⟨oexB_ok h1, h2, h4, h5, h3⟩, He.eqO_ok h6, h7, h8⟩
def spX (K : Frag) (x f : Str) : Sp := fun vs H Q _ => ∃ a v, vs = [.ref a, v] ∧ H a = some (exo a (He.ga K x) none) ∧ ∀ dx, H dx = none → dx ≠ a → Q .non (upd (upd H dx (exd dx [(f, v)])) a (exo a (He.ga K x) (some dx)))
structure FX (P : Program) (wd : World) (K : Frag) (mg : Str → Option Value) (base : Heap) (x f : Str) : Prop where
  ini : XiC K x f
  ok : ∃ fd ps, FnOk P wd K mg base (L2.CX P wd) 1 (He.ma K (He.ga K x) "__init__") fd ps (spX K x f) ∧ Binds K fd ps []
  gl : mg x = some (.ref (He.ga K x))
end
section
variable {P : Program} {wd : World} {K : Frag} {mg : Str → Option Value} {base : Heap}
theorem fx_of {x f q a b : Str} {st : Stmt} {p1 p2 p3 p4 : Pos} (C : XiC K x f) (hgl : mg x = some (.ref (He.ga K x))) (F : FnS K "__init__" q st (He.ma K (He.ga K x) "__init__")) (S : FnScope [a, b] [a, b] (defScope st)) (hbd : defBody st = [.Assign [.Attribute (.Name a p1) f p2] (.Name b p3) p4])
    (hb : ∀ (kV doc pm : Value) (an : Option Addr) (cdv ct : Value) (us : List Value), us.length = 2 → bindArgs (PySem.W.fnOf "__init__" q (defArgs st) (defBody st) (defScope st) .none kV doc pm an cdv ct) ⟨us, []⟩ = pure (([a, b] : List Str).zip us))
    (ha : ∀ (E : Env), E.scope = defScope st → Vis E.scope a ∧ Vis E.scope b) (hd : (a == ("__debug__" : Str)) = false ∧ (a == ("__classdict__" : Str)) = false ∧ (b == ("__debug__" : Str)) = false ∧ (b == ("__classdict__" : Str)) = false)
    (hsw : ∀ (E : Env), E.scope = defScope st → swapsWith (.Name b p3) (some (.Attribute (.Name a p1) f p2)) p4.line E = pure false) : FX P wd K mg base x f := by
  obtain ⟨fd, F⟩ := F
  refine ⟨C, ⟨fd, _, F.ok (CX := L2.CX P wd) (P := P) (w := wd) (mg := mg) (base := base) (k := 0) (sp := spX K x f) S (fun vs H Q E h => by obtain ⟨a, v, rfl, _⟩ := h; rfl) (fun cdv A outer s H vs Q E hr h => ?_), F.bindsN hb⟩, hgl⟩
  rw [hbd]
  refine ⟨_, pss_cons (ps_ost (pe_var (i := 0) rfl (ha _ rfl).1 hd.1 hd.2.1) (pe_var (i := 1) rfl (ha _ rfl).2 hd.2.2.1 hd.2.2.2) (hsw _ rfl)) pss_nil, ?_⟩
  obtain ⟨a', v, rfl, h1, h2⟩ := h
  exact ⟨v, rfl, .ref a', rfl, a', He.ga K x, rfl, C.ok, C.no, .inl ⟨h1, fun dx n ne => h2 dx n ne⟩⟩
end
section
variable {K : Frag} {w0 w w1 : Wd} {W : WX} {X : Cx} {ρ : Rh} {σ : L2.St} {pins : List (Addr × Obj)} {s : Shared} {pos p pos' : Pos}
theorem ds_raiseI {x f : Str} {e : Expr} {m : Rh → M D} (C : FX X.prog X.w K X.mg X.base x f) (hr : Room 2 X.A) (tk : Takes X W) (he : DE K w0 W X e m) (hc : X.calm = true := by rfl) (hK : X.K = K := by rfl) (hg : Gl X x := by rfl) (hdb : (x == ("__debug__" : Str)) = false := by decide)
    (hs : starEach [e] X.env = (false, eval e X.env) :: starEach [] X.env := by rfl) : DS K w0 W X (.Raise (some (.Call (.Name x p) [e] [] pos')) none pos) (sRaise fun ρ => bind (m ρ) fun d => ret ⟨x, [f], [d]⟩) := by
  subst hK
  refine .mk' (mono_sRaise fun ρ => mono_bind (he.mono ρ) fun _ => mono_ret) fun pins s σ ρ w D I at_ r hE => ?_
  obtain ⟨fd, ps, FO, BO⟩ := C.ok
  have pm := pmk_oex (p := p) (pos := pos') (dvs := []) (ds := []) C.ini.ok C.ini.ini C.ini.ty FO hr BO .nil (passes_call tk (fun _ _ _ _ z => z.elim)) hg C.gl (pa_cons he.pe pa_nil hs) hdb hs rfl
  refine thn ((ps_raise hc tk pm).run pins s σ w.H (endsV X.K w0 w D) I ?_) fun _ _ => sp_got
  refine ⟨w, ρ, rfl, at_, ?_⟩
  refine he.mono ρ _ _ _ _ _ (fun d S' q w' v e n rr => ?_) (fun y S' q w' c d e n rx => hE y ρ w' σ c d (by rw [e]; exact q) n.nw rx) r
  subst e
  refine ⟨by show 1 ≤ 1000; decide, fun a ha => ⟨a, v, rfl, upd_same, fun dx hdx ne => ⟨rfl, dx, [(f, v)], upd_same, ?_, ?_, ?_⟩⟩⟩
  · rw [upd_ne ne, upd_same]
  · rw [upd_ne ne] at hdx; exact hdx
  · have hd0 : w'.H dx = none := by rw [upd_ne ne] at hdx; exact hdx
    have eH : upd (del (upd (upd (upd w'.H a (exo a (He.ga X.K x) none)) dx (exd dx [(f, v)])) a (exo a (He.ga X.K x) (some dx))) a) dx (.xd [(f, v)]) = (w'.lay dx (.xd [(f, v)])).H := by
      funext b
      show _ = upd w'.H dx (.xd [(f, v)]) b
      by_cases hb : b = dx
      · rw [hb, upd_same, upd_same]
      · rw [upd_ne hb, upd_ne hb]
        by_cases hba : b = a
        · rw [hba, del_same, ha]
        · rw [del_ne hba, upd_ne hba, upd_ne hb, upd_ne hba]
    rw [eH]
    refine hE ⟨x, [f], [d]⟩ ρ (w'.lay dx (.xd [(f, v)])) σ _ _ q (n.nw.trans (n.at_.nw (Step.lay n.at_.st.ok hd0))) ⟨rfl, rfl, .inr ⟨dx, [v], rfl, upd_same, rfl, ?_⟩⟩
    exact RepL.cons (Rep.le (Step.lay n.at_.st.ok hd0).le _ rr) RepL.nil
end
end Dn

namespace Dn
open PySem PySem.W PySem.Spec PyProof.Rows L2 TL Bits An
abbrev TSx := Addr → Value → Option Addr → TS
def onX (o : Option Nat) (a : Addr) (σ : L2.St) : L2.St := match o with
  | none => σ
  | some i => σ.set i (some (.ref a))
abbrev SuOk (X : Cx) (st : List Stmt) (ts : TSx) : Prop := ∀ (a : Addr) (oe : Obj) (k : Value) (d : Option Addr) (pn : List (Addr × Obj)), Zc k d oe → (∃ vs, oe.data = .fields vs) → PSs (X.suite a ((a, oe) :: pn)) st (ts a k d)
inductive HdX (X : Cx) : List ExceptHandler → List (Value × Option Nat × TSx) → Prop
  | nil : HdX X [] []
  | bare {x : Str} {c : Value} {ts : TSx} {b : Stmt} {su : List Stmt} {np hp : Pos} {hs : List ExceptHandler} {l : List (Value × Option Nat × TSx)} (hc : Names X x c) (h : SuOk X (b :: su) ts) (r : HdX X hs l) : HdX X (.ExceptHandler (some (.Name x np)) none (b :: su) hp :: hs) ((c, none, ts) :: l)
  | named {x n : Str} {i : Nat} {c : Value} {ts : TSx} {b : Stmt} {su : List Stmt} {np hp : Pos} {hs : List ExceptHandler} {l : List (Value × Option Nat × TSx)} (hc : Names X x c) (hN : X.N.Nodup) (hi : X.N[i]? = some n) (hl : X.env.kindOf n = some .local) (h : SuOk X (b :: su) ts) (r : HdX X hs l) :
      HdX X (.ExceptHandler (some (.Name x np)) (some n) (b :: su) hp :: hs) ((c, some i, ts) :: l)
section
variable {X : Cx} {Wo : WX} {D : Ends} {pins : List (Addr × Obj)} {σ : L2.St} {H : Hp}
end
end Dn

namespace Dn
open PySem PySem.W PySem.Spec PyProof.Rows L2 TL Bits An
def subX (xs : List Str) (c C : Str) : Option Bool := if (xs.contains c && xs.contains C) = true then some (c == C || C == "NetError") else none
def noX : Sl → Sl
  | .ex _ => .un
  | s => s
def wipX (ρ : Rh) : Rh := ρ.map noX
def bindX (o : Option Nat) (x : Xn) (ρ : Rh) : Rh := match o with
  | none => wipX ρ
  | some i => (wipX ρ).set i (.ex x)
def offR (o : Option Nat) (ρ : Rh) : Rh := match o with
  | none => wipX ρ
  | some i => (wipX ρ).set i .un
def unX (o : Option Nat) (D : EndsD) : EndsD where
  nx := fun ρ S => D.nx (offR o ρ) S
  rt := D.rt
  bk := fun ρ S => D.bk (offR o ρ) S
  ct := fun ρ S => D.ct (offR o ρ) S
  ex := fun _ _ _ => False
structure Hd where
  C : Str
  i : Option Nat
  m : Sm
def hdl (xs : List Str) (x : Xn) (ρ : Rh) (S : Sv) (D : EndsD) : List Hd → Prop
  | [] => D.ex x ρ S
  | h :: r => match subX xs x.c h.C with
    | some true => h.m (bindX h.i x ρ) S (unX h.i D)
    | some false => hdl xs x ρ S D r
    | none => False
def sTry (xs : List Str) (b : Sm) (hs : List Hd) : Sm := fun ρ S D => b ρ S { D with ex := fun x ρ' S' => hdl xs x ρ' S' D hs }
def Wd.catch (w : Wd) (a : Addr) (c : Value) (d : Option Addr) : Wd := { w with cur := some (a, c, d) }
section
variable {K : Frag} {w0 w w1 : Wd} {W : WX} {X : Cx} {ρ : Rh} {σ : L2.St} {pins : List (Addr × Obj)} {s : Shared} {pos : Pos} {a : Addr} {c : Value} {d : Option Addr}
theorem Step.catch (x : Step K (w.catch a c d) w1) : Step K w w1 := ⟨x.ok, x.f, x.a, x.h, x.c, x.cn, x.fn⟩
theorem Step.toCatch (x : Step K w w1) : Step K (w.catch a c d) w1 := ⟨x.ok, x.f, x.a, x.h, x.c, x.cn, x.fn⟩
theorem wip_get {i : Nat} {t : Sl} (h : (wipX ρ)[i]? = some t) : ∃ u, ρ[i]? = some u ∧ ((t = .un ∧ ∃ x, u = .ex x) ∨ (t = u ∧ ∀ x, u ≠ .ex x)) := by
  unfold wipX at h
  rw [List.getElem?_map] at h
  cases e : ρ[i]? with
  | none => rw [e] at h; cases h
  | some u =>
    rw [e] at h
    refine ⟨u, rfl, ?_⟩
    have h : noX u = t := Option.some.inj h
    cases u with
    | ex x => exact .inl ⟨h.symm, x, rfl⟩
    | un => exact .inr ⟨h.symm, fun _ z => by cases z⟩
    | fn => exact .inr ⟨h.symm, fun _ z => by cases z⟩
    | sh _ => exact .inr ⟨h.symm, fun _ z => by cases z⟩
    | ol _ => exact .inr ⟨h.symm, fun _ z => by cases z⟩
    | oi _ _ _ => exact .inr ⟨h.symm, fun _ z => by cases z⟩
theorem slot_any {t : Sl} {o : Option V} {w2 : Wd} (h : SlotOk K w w1 t o) (hn : ∀ x, t ≠ .ex x) (e1 : w2.H = w.H) (e2 : w2.me = w.me) (e3 : w2.fn = w.fn) : SlotOk K w2 w1 t o := by
  cases t with
  | un => trivial
  | fn => obtain ⟨a, h1, h2⟩ := h; exact ⟨a, e3.trans h1, h2⟩
  | ex x => exact absurd rfl (hn x)
  | sh d => exact h
  | ol ds => obtain ⟨a, vs, h1, h2, h3, h4, h5, h6⟩ := h; exact ⟨a, vs, h1, h2, h3, h4, by rw [e1]; exact h5, h6⟩
  | oi c ns ds => obtain ⟨a, dx, vs, h0, h1, h2, h3, h4, h5, h6⟩ := h; exact ⟨a, dx, vs, by rw [e2]; exact h0, h1, h2, h3, h4, by rw [e1]; exact h5, h6⟩
theorem Good.wip {w2 : Wd} (g : Good K w w1 ρ σ) (e1 : w2.H = w.H) (e2 : w2.me = w.me) (e3 : w2.fn = w.fn) : Good K w2 w1 (wipX ρ) σ where
  len := by unfold wipX; rw [List.length_map]; exact g.len
  at_ := fun i t h => by
    obtain ⟨u, hu, ⟨rfl, _⟩ | ⟨rfl, hn⟩⟩ := wip_get h
    · trivial
    · exact slot_any (g.at_ i _ hu) hn e1 e2 e3
  ne := fun i j t u x hij hi hj oi oj => by
    obtain ⟨t', ht, ⟨rfl, _⟩ | ⟨rfl, _⟩⟩ := wip_get hi
    · cases oi
    obtain ⟨u', hu, ⟨rfl, _⟩ | ⟨rfl, _⟩⟩ := wip_get hj
    · cases oj
    exact g.ne i j _ _ x hij ht hu oi oj
theorem Good.setEx {i : Nat} {x : Xn} {v : Option V} (g : Good K w w1 ρ σ) (t : Sl) (ht : t.own = false) (hs : SlotOk K w w1 t v) : Good K w w1 (ρ.set i t) (σ.set i v) where
  len := by rw [List.length_set, List.length_set]; exact g.len
  at_ := fun j u h => by
    by_cases hj : j = i
    · subst hj
      by_cases hl : j < ρ.length
      · rw [List.getElem?_set_self hl] at h
        cases h
        rw [List.getElem?_set_self (by rw [← g.len]; exact hl)]
        exact hs
      · rw [List.getElem?_eq_none (by simpa using hl)] at h; cases h
    · rw [List.getElem?_set_ne (Ne.symm hj)] at h ⊢
      exact g.at_ j u h
  ne := fun j l u v' x hjl hj hl oj ol => by
    have nj : j ≠ i := fun z => by
      subst z
      by_cases hk : j < ρ.length
      · rw [List.getElem?_set_self hk] at hj; cases hj; rw [ht] at oj; cases oj
      · rw [List.getElem?_eq_none (by simpa using hk)] at hj; cases hj
    have nl : l ≠ i := fun z => by
      subst z
      by_cases hk : l < ρ.length
      · rw [List.getElem?_set_self hk] at hl; cases hl; rw [ht] at ol; cases ol
      · rw [List.getElem?_eq_none (by simpa using hk)] at hl; cases hl
    rw [List.getElem?_set_ne (Ne.symm nj)] at hj ⊢
    rw [List.getElem?_set_ne (Ne.symm nl)] at hl ⊢
    exact g.ne j l u v' x hjl hj hl oj ol
theorem At.catch {o : Option Nat} {x : Xn} (at_ : At K w0 w ρ σ) (rx : RepX K w.toGd x c d) : At K (w0.catch a c d) w (bindX o x ρ) (onX o a σ) := by
  refine ⟨at_.st.toCatch, ?_⟩
  have g : Good K (w0.catch a c d) w (wipX ρ) σ := at_.good.wip rfl rfl rfl
  cases o with
  | none => exact g
  | some i => exact g.setEx (x := x) (.ex x) rfl ⟨a, c, d, rfl, rfl, rx⟩
abbrev SuD (K : Frag) (w0 : Wd) (X : Cx) (st : List Stmt) (m : Sm) : Prop := ∀ (a : Addr) (oe : Obj) (k : Value) (d : Option Addr) (pn : List (Addr × Obj)), Zc k d oe → (∃ vs, oe.data = .fields vs) → DSs K (w0.catch a k d) WF (X.suite a ((a, oe) :: pn)) st m
inductive HdD (K : Frag) (w0 : Wd) (X : Cx) : List ExceptHandler → List Hd → Prop
  | nil : HdD K w0 X [] []
  | bare {x : Str} {m : Sm} {b : Stmt} {su : List Stmt} {np hp : Pos} {hs : List ExceptHandler} {l : List Hd} (hm : X.mg x = some (.ref (He.ga K x))) (hg : Gl X x) (hd : (x == ("__debug__" : Str)) = false) (h : SuD K w0 X (b :: su) m) (r : HdD K w0 X hs l) : HdD K w0 X (.ExceptHandler (some (.Name x np)) none (b :: su) hp :: hs) (⟨x, none, m⟩ :: l)
  | named {x n : Str} {i : Nat} {m : Sm} {b : Stmt} {su : List Stmt} {np hp : Pos} {hs : List ExceptHandler} {l : List Hd} (hm : X.mg x = some (.ref (He.ga K x))) (hg : Gl X x) (hd : (x == ("__debug__" : Str)) = false) (hN : X.N.Nodup) (hi : X.N[i]? = some n) (hl : X.env.kindOf n = some .local) (h : SuD K w0 X (b :: su) m) (r : HdD K w0 X hs l) :
      HdD K w0 X (.ExceptHandler (some (.Name x np)) (some n) (b :: su) hp :: hs) (⟨x, some i, m⟩ :: l)
end
end Dn

namespace Dn
open PySem PySem.W PySem.Spec PyProof.Rows L2 TL Bits An
def exF (cs : List Str) (i : Nat) (f : Str) (ρ : Rh) : M D := match ρ[i]? with
  | some (.ex x) => (match cs.contains x.c with
    | true => fldOf f x.ns x.ds
    | false => fail)
  | _ => fail
section
variable {K : Frag} {w0 w w1 : Wd} {W : WX} {X : Cx} {ρ : Rh} {σ : L2.St} {pins : List (Addr × Obj)} {s : Shared} {pos p p1 : Pos} {a : Addr} {k : Value} {d : Option Addr} {oe : Obj} {pn : List (Addr × Obj)}
structure XfOk (K : Frag) (f : Str) (cs : List Str) : Prop where
  ok : ∀ c ∈ cs, XfC K (He.ga K c) ∧ PySem.W.findIn K (.ref (He.ga K c)) f = some none
theorem xfsB_ok {f : Str} {cs : List Str} (h : xfsB K f cs = true) : XfOk K f cs := ⟨fun c m => by
  have := List.all_eq_true.mp h c m
  simp only [Bool.and_eq_true, decide_eq_true_eq] at this
  exact ⟨xfB_ok this.1, this.2⟩⟩
def isX1 (xs : List Str) (c : Str) : D → Option Bool
  | .cls C => subX xs c C
  | .ty n => if (xs.contains c && n == "ValueError") = true then some true else none
  | _ => none
def isXL (xs : List Str) (c : Str) : List D → Option Bool
  | [] => some false
  | t :: r => (isX1 xs c t).bind fun a => (isXL xs c r).bind fun b => some (a || b)
def isXV (xs : List Str) (c : Str) (t : D) : Option Bool := if xs.contains c = true then (match t with
  | .tup ds => isXL xs c ds
  | t => isX1 xs c t) else none
def eIsX (xs : List Str) (i : Nat) (mc : Rh → M D) (ρ : Rh) : M D := match ρ[i]? with
  | some (.ex x) => bind (mc ρ) fun t => orFail ((isXV xs x.c t).map .bl)
  | _ => fail
structure XkOk (K : Frag) (xs : List Str) : Prop where
  cl : ∀ c ∈ xs, (PySem.W.clsIn K (He.ga K c)).isSome = true ∧ PySem.W.findIn K (.ref (He.ga K c)) "__getattribute__" = some (some (.builtin "BaseException.__getattribute__")) ∧ PySem.W.findIn K (.ref (He.ga K c)) "__getattr__" = some none ∧ PySem.W.subIn K (.ref (He.ga K c)) (.type "BaseException") = some true ∧
    PySem.W.findIn K (.ref (He.ga K c)) "__class__" = some (some (.builtin "object.__class__")) ∧ PySem.W.specialIn K (.builtin "object.__class__") "__get__" = some (some (.builtin "getset_descriptor.__get__")) ∧ PySem.W.takesIn K (.builtin "object.__class__") = some true ∧ PySem.W.mroIn K (He.ga K c) (.type "object") = some true
  kk : ∀ c C b, subX xs c C = some b → PySem.W.kitOne K (.ref (He.ga K c)) (.ref (He.ga K C)) = some b
  ve : ∀ c ∈ xs, PySem.W.kitOne K (.ref (He.ga K c)) (.type "ValueError") = some true
theorem xkB_ok {xs : List Str} (h : xkB K xs = true) : XkOk K xs := by
  have h1 : ∀ c ∈ xs, _ := List.all_eq_true.mp h
  simp only [Bool.and_eq_true] at h1
  refine ⟨fun c m => ?_, fun c C b e => ?_, fun c m => of_decide_eq_true (h1 c m).2.2⟩
  · have q := (h1 c m).1
    unfold xk1 at q
    simp only [Bool.and_eq_true, decide_eq_true_eq] at q
    exact q
  · unfold subX at e
    split at e
    · rename_i m
      simp only [Bool.and_eq_true, List.contains_iff_mem] at m
      rw [← e]
      exact of_decide_eq_true (List.all_eq_true.mp (h1 c m.1).2.1 C m.2)
    · cases e
theorem subX_mem {xs : List Str} {c C : Str} {b : Bool} (h : subX xs c C = some b) : c ∈ xs := by
  unfold subX at h
  split at h
  · rename_i m
    simp only [Bool.and_eq_true, List.contains_iff_mem] at m
    exact m.1
  · cases h
theorem isX1_ok {xs : List Str} {c : Str} {t : D} {v : V} {b : Bool} {G : Gd} (hk : XkOk K xs) (r : Rep K G t v) (h : isX1 xs c t = some b) : ∃ u, ClsV v u ∧ PySem.W.kitOne K (.ref (He.ga K c)) u = some b ∧ c ∈ xs := by
  cases t with
  | cls C =>
    unfold Rep at r
    subst r
    exact ⟨_, .own _, hk.kk c C b h, subX_mem h⟩
  | ty n =>
    unfold Rep at r
    subst r
    unfold isX1 at h
    simp only at h
    by_cases m : (xs.contains c && n == "ValueError") = true
    · rw [if_pos m] at h
      simp only [Bool.and_eq_true, List.contains_iff_mem, beq_iff_eq] at m
      obtain ⟨m, rfl⟩ := m
      cases h
      exact ⟨_, .ty _, hk.ve c m, m⟩
    · rw [if_neg m] at h; cases h
  | _ => cases h
theorem isXL_ok {xs : List Str} {c : Str} {G : Gd} (hk : XkOk K xs) : ∀ {ds : List D} {vs : List V} {b : Bool}, RepL K G ds vs → isXL xs c ds = some b → ∃ us, Paired ClsV vs us ∧ PySem.W.kitAny K (.ref (He.ga K c)) us = some b
  | [], _, _, r, e => by
    unfold RepL at r; subst r
    cases e
    exact ⟨[], .nil, rfl⟩
  | t :: ds, _, b, r, e => by
    unfold RepL at r
    obtain ⟨v, vr, rfl, r1, r2⟩ := r
    unfold isXL at e
    cases e1 : isX1 xs c t with
    | none => rw [e1] at e; cases e
    | some a =>
      rw [e1] at e
      cases e2 : isXL xs c ds with
      | none => rw [e2] at e; cases e
      | some b2 =>
        rw [e2] at e
        obtain ⟨u, c1, k1, _⟩ := isX1_ok hk r1 e1
        obtain ⟨us, c2, k2⟩ := isXL_ok hk r2 e2
        have e : (a || b2) = b := Option.some.inj e
        refine ⟨u :: us, .cons c1 c2, kitAny_cons k1 (fun z => ?_) (fun z => ?_)⟩
        · rw [k2, ← e, z]; rfl
        · rw [← e, z]; rfl
end
end Dn

namespace Dn
open PySem PySem.W PySem.Spec PyProof.Rows L2 TL Bits An
section
variable {K : Frag} {w0 w w1 : Wd} {W : WX} {X : Cx} {ρ : Rh} {σ : L2.St} {pins : List (Addr × Obj)} {s : Shared} {pos p : Pos}
def packA (k : Nat) (n : Int) : Array UInt8 := byteArr (KTBy.little k n).reverse
def toBD (d : D) (ds : List D) : M D := match d, ds with
  | .int n, [.int k, .str z] => need (z = ("big" : Str) ∧ (0 ≤ k ∧ k ≤ 1000) ∧ 0 ≤ n ∧ n < 256 ^ k.toNat) (ret (.byt (packA k.toNat n)))
  | _, _ => fail
def fromBD : List D → M D
  | [.byt b, .str z] => need (z = ("big" : Str) ∧ b.size ≤ 1000) (ret (.int (KFB.value (KBw.bInts b))))
  | _ => fail
theorem mono_fromB {ds : List D} : Mono (fromBD ds) := by unfold fromBD; split; exact mono_need mono_ret; exact mono_fail
theorem de_fromB {a b : Expr} {apos : Pos} {pl : Sem Bool} {m : Rh → M (List D)} (hm : X.mg "int" = none) (ha : DA K w0 W X [a, b] m) (hg : Gl X "int" := by rfl) (hst : starEach [a, b] X.env = (false, eval a X.env) :: starEach [b] X.env := by rfl) (hpl : (backTo pos (starEach [b] X.env)).any (·.1) = false := by rfl)
    (ht : eval (.Call (.Attribute (.Name "int" p) "from_bytes" apos) [a, b] [] pos) X.env = (do
      let z ← eval (.Name "int" p) X.env
      standAt apos.atName
      let (f, y) ← holding [z] (getMethod z "from_bytes" pl)
      callWith pos f y (backTo pos (starEach [a, b] X.env)) (backToKw pos (keywordEach [] X.env))) := by rfl) : DE K w0 W X (.Call (.Attribute (.Name "int" p) "from_bytes" apos) [a, b] [] pos) (fun ρ => bind (m ρ) fromBD) := by
  refine ⟨fun ρ => mono_bind (ha.mono ρ) fun _ => mono_fromB, PE.imp (pe_fromW (pe_bltn (v := .ty "int") hg hm bb_int rfl (by decide) (by decide)) ha.pa hst hpl ht) fun σ H Q h => ?_⟩
  obtain ⟨w, ρ, rfl, at_, r⟩ := h
  refine ⟨rfl, fun u hu => ?_⟩
  have st : Step K w (w.lay u (fbHO u)) := Step.lay at_.st.ok hu
  refine ⟨w.lay u (fbHO u), ρ, rfl, at_.step st, ?_⟩
  refine ha.mono ρ _ _ _ _ _ (fun ds S' q w' vs e n rl => ?_) (fun x S' q w' c d e n rx => q w' c d e ((at_.nx st).trans n) rx) r
  refine ⟨n.st.h u _ upd_same (fun z => at_.st.ok.ch u z hu), ?_⟩
  unfold fromBD at q
  split at q
  case h_2 => exact q.elim
  rename_i bb z
  obtain ⟨⟨rfl, hs⟩, q⟩ := q
  obtain ⟨v1, v2, rfl, r1, r2⟩ := rl.inv2
  unfold Rep at r1 r2
  subst r1 r2
  have e1 : bb = byteArr (KBw.bInts bb) := byteArr_of rfl
  exact ⟨KBw.bInts bb, fun k hk => KBw.ints_in hk, by rw [KBw.ints_length]; exact hs, by rw [← e1], q w' _ e ((at_.nx st).trans n) rInt⟩
end
end Dn

namespace Dn
open PySem PySem.W PySem.Spec PyProof.Rows L2 TL Bits An
structure FMK (P : Program) (wd : World) (K : Frag) (mg : Str → Option Value) (base : Heap) (k : Nat) (f : Addr) (ks : List Str) (gD : List D → List D → List D) (F : List D → M D) : Prop where
  ex : ∃ fd ps, FnOk P wd K mg base (L2.CX P wd) k f fd ps (spD K F) ∧ BindK K fd ps 1 ks gD
  mono : ∀ ds, Mono (F ds)
theorem FMK.up {P : Program} {wd : World} {K : Frag} {mg : Str → Option Value} {base : Heap} {j k : Nat} {f : Addr} {ks : List Str} {gD : List D → List D → List D} {F : List D → M D} (h : FMK P wd K mg base j f ks gD F) (l : j ≤ k := by decide) : FMK P wd K mg base k f ks gD F := by
  obtain ⟨fd, ps, a, b⟩ := h.ex
  exact ⟨⟨fd, ps, a.mono l, b⟩, h.mono⟩
def eMthK (tbl : Fns) (m : Str) (nk : Nat) (gD : List D → List D → List D) (o : Rh → M D) (kk : Rh → M (List D)) : Rh → M D := fun ρ => bind (o ρ) fun x => match mthF tbl m x with
  | some F => bind (kk ρ) fun es => need (es.length = nk) (F (gD [x] es))
  | none => fail
section
variable {K : Frag} {w0 w w1 : Wd} {W : WX} {X : Cx} {ρ : Rh} {σ : L2.St} {pins : List (Addr × Obj)} {s : Shared} {pos p apos : Pos} {k : Nat}
end
end Dn

namespace Dn
open PySem PySem.W PySem.Spec PyProof.Rows L2 TL Bits An
section
variable {K : Frag} {w0 w w1 : Wd} {W : WX} {X : Cx} {ρ : Rh} {σ : L2.St} {pins : List (Addr × Obj)} {s : Shared} {pos : Pos}
def eOrN (a : Rh → M D) : Rh → M D := eOr truD a (fun ρ => bind (aNil ρ) lstM)
def forgetR : List Nat → Rh → Rh
  | [], ρ => ρ
  | v :: vs, ρ => forgetR vs (ρ.set v .un)
theorem Good.forget1 {i : Nat} (g : Good K w0 w ρ σ) : Good K w0 w (ρ.set i .un) σ where
  len := by rw [List.length_set]; exact g.len
  at_ := fun j t e => by
    by_cases h : j = i
    · subst h
      have hl : j < ρ.length := by
        have := (List.getElem?_eq_some_iff.mp e).1
        rwa [List.length_set] at this
      rw [List.getElem?_set_self hl] at e
      cases e
      trivial
    · rw [List.getElem?_set_ne (Ne.symm h)] at e
      exact g.at_ j t e
  ne := fun a b s t x hab ea eb sa sb ea' => by
    have nS : ∀ {j : Nat} {t : Sl}, (ρ.set i .un)[j]? = some t → t.own = true → ρ[j]? = some t := fun {j t} e o => by
      by_cases h : j = i
      · subst h
        have hl : j < ρ.length := by
          have := (List.getElem?_eq_some_iff.mp e).1
          rwa [List.length_set] at this
        rw [List.getElem?_set_self hl] at e
        cases e; cases o
      · rw [List.getElem?_set_ne (Ne.symm h)] at e
        exact e
    exact g.ne a b s t x hab (nS ea sa) (nS eb sb) sa sb ea'
theorem At.forget : ∀ (vs : List Nat) {ρ : Rh}, At K w0 w ρ σ → At K w0 w (forgetR vs ρ) σ
  | [], _, a => a
  | v :: vs, _, a => At.forget vs ⟨a.st, a.good.forget1⟩
def sWip (vs : List Nat) (m : Sm) : Sm := fun ρ S D => m ρ S { D with nx := fun ρ' S' => D.nx (forgetR vs ρ') S', ct := fun ρ' S' => D.ct (forgetR vs ρ') S' }
theorem mono_wip {vs : List Nat} {m : Sm} (h : MonoS m) : MonoS (sWip vs m) := fun ρ S D D' h1 h2 h3 h4 h5 q =>
  h ρ S { D with nx := fun ρ' S' => D.nx (forgetR vs ρ') S', ct := fun ρ' S' => D.ct (forgetR vs ρ') S' } { D' with nx := fun ρ' S' => D'.nx (forgetR vs ρ') S', ct := fun ρ' S' => D'.ct (forgetR vs ρ') S' } (fun _ _ => h1 _ _) h2 h3 (fun _ _ => h4 _ _) h5 q
theorem GotS.wip {vs : List Nat} {D : EndsD} {f : Flow} {s' : Shared} (g : GotS K w0 X pins w { D with nx := fun ρ' S' => D.nx (forgetR vs ρ') S', ct := fun ρ' S' => D.ct (forgetR vs ρ') S' } f s') : GotS K w0 X pins w D f s' := by
  cases f with
  | next => obtain ⟨a, b, c, d, e, f⟩ := g; exact ⟨_, b, c, d, ⟨e.at_.forget vs, e.le⟩, f⟩
  | brk => exact g
  | cont => obtain ⟨a, b, c, d, e, f⟩ := g; exact ⟨_, b, c, d, ⟨e.at_.forget vs, e.le⟩, f⟩
  | ret u => exact g
theorem dss_wip {vs : List Nat} {st : List Stmt} {m : Sm} (h : DSs K w0 W X st m) : DSs K w0 W X st (sWip vs m) :=
  .mk' (mono_wip h.mono) fun _ _ _ _ _ _ I at_ r hE => thn (h.raw I at_ r hE) fun _ _ g => g.wip
end
end Dn

namespace Dn
open PySem PySem.W PySem.Spec PyProof.Rows L2 TL Bits An
section
variable {K : Frag} {w0 w w1 : Wd} {W : WX} {X : Cx} {ρ : Rh} {σ : L2.St} {pins : List (Addr × Obj)} {s : Shared} {pos : Pos}
end
end Dn

namespace Dn
open PySem PySem.W PySem.Spec PyProof.Rows L2 TL Bits An
section
variable {K : Frag} {w0 w w1 : Wd} {W : WX} {X : Cx} {ρ : Rh} {σ : L2.St} {pins : List (Addr × Obj)} {s : Shared} {pos : Pos}
def isBD (neg : Bool) (a b : D) : M D := match a, b with
  | .bl a, .bl b => ret (.bl (xor neg (decide (a = b))))
  | _, _ => fail
end
end Dn

namespace Dn
open PySem PySem.W PySem.Spec PyProof.Rows L2 TL Bits An
section
variable {K : Frag} {w0 w w1 : Wd} {W : WX} {X : Cx} {ρ : Rh} {σ : L2.St} {pins : List (Addr × Obj)} {s : Shared} {pos : Pos}
def repS (k : Nat) (z : Str) : Str := ⟨((List.replicate k (tl z)).flatten).toArray⟩
def mulX (a b : D) : M D := match a with
  | .str z => (match b with
    | .int k => need ((-(2 ^ 62) ≤ k ∧ k < 2 ^ 62) ∧ z.length * k.toNat ≤ sizeLine) (ret (.str (repS k.toNat z)))
    | _ => fail)
  | a => mulD a b
end
end Dn

namespace Dn
open PySem PySem.W PySem.Spec PyProof.Rows L2 TL Bits An
section
variable {K : Frag} {w0 w w1 : Wd} {W : WX} {X : Cx} {ρ : Rh} {σ : L2.St} {pins : List (Addr × Obj)} {s : Shared} {pos : Pos} {k : Nat}
def ptys : List String := ["int", "str", "bytes", "bool", "NoneType"]
def ptyN : D → Option String
  | .non => some "NoneType"
  | .bl _ => some "bool"
  | .int _ => some "int"
  | .str _ => some "str"
  | .byt _ => some "bytes"
  | _ => none
structure ObOk (K : Frag) (m r : Str) (cs : List Str) : Prop where
  sf : ∀ c ∈ cs, selfFirst K (He.ga K c) = true
  rn : ∀ c ∈ cs, PySem.W.findIn K (.ref (He.ga K c)) r = some none
  ty : ∀ t ∈ ptys, (∃ fo, PySem.W.findIn K (.type t) m = some fo) ∧ ∃ ro, PySem.W.findIn K (.type t) r = some ro
  sb : ∀ c ∈ cs, ∀ t ∈ ptys, PySem.W.subIn K (.type t) (.ref (He.ga K c)) = some false
def ownBin (tbl : Fns) (cs : List Str) (base : D → D → M D) (a b : D) : M D := match clsN a with
  | some c => (match tbl.lookup c, cs.contains c with
    | some F, true => (match ptyN b with
      | some _ => F [a, b]
      | none => if clsN b = some c then F [a, b] else fail)
    | _, _ => fail)
  | none => base a b
end
end Dn

namespace Dn
open PySem PySem.W PySem.Spec PyProof.Rows L2 TL Bits An
section
variable {K : Frag} {w0 w w1 : Wd} {W : WX} {X : Cx} {ρ : Rh} {σ : L2.St} {pins : List (Addr × Obj)} {s : Shared} {pos : Pos} {k : Nat}
def catM : D → D → M (List D)
  | .lst xs, .lst ys => need (xs.length + ys.length ≤ sizeLine) (ret (xs ++ ys))
  | _, _ => fail
def aCat (a b : Rh → M D) : Rh → M (List D) := fun ρ => bind (a ρ) fun x => bind (b ρ) fun y => catM x y
def bitsD (d : D) (ds : List D) : M D := match d, ds with
  | .int i, [] => ret (.int (Builtin.Int.intBits i : Nat))
  | _, _ => fail
end
end Dn

namespace Dn
open PySem PySem.W PySem.Spec PyProof.Rows L2 TL Bits An
section
variable {K : Frag} {w0 w w1 : Wd} {W : WX} {X : Cx} {ρ : Rh} {σ : L2.St} {pins : List (Addr × Obj)} {s : Shared} {pos pos1 p p0 : Pos} {k : Nat}
def lrgD : List D → M D
  | [.int i, .int j, .int c] => need (RgC i j c (Builtin.Range.rangeSize i j c).toNat ∧ (Builtin.Range.rangeSize i j c).toNat ≤ 2 ^ 24) (ret (.lst (rngC i c (Builtin.Range.rangeSize i j c).toNat)))
  | _ => fail
end
end Dn

namespace Dn
open PySem PySem.W PySem.Spec PyProof.Rows L2 TL Bits An
section
variable {K : Frag} {w0 w w1 : Wd} {W : WX} {X : Cx} {ρ : Rh} {σ : L2.St} {pins : List (Addr × Obj)} {s : Shared}
def listE : List D → M D
  | [.byt b] => need (b.size ≤ sizeLine) (ret (.lst ((bi b).map .int)))
  | ds => listD ds
end
end Dn

namespace Dn
open PySem PySem.W PySem.Spec PyProof.Rows L2 TL Bits An
def Acts (P : Program) (wd : World) (K : Frag) (mg : Str → Option Value) (base : Heap) (k : Nat) (fs : List Addr) (s : Shared) (w : Wd) (fa : Addr) (m : M D) : Prop :=
  ∀ (A : Around) (outer : List Env) (s1 : Shared) (w1 : Wd) (Q : VK) (E : XK), Room k A → Env0 P wd K mg base A outer s1 w1.H → Un fs [] w.H w1.H s.heap s1.heap → s1.os = s.os → Step K w w1 →
    m w1.S (fun d S' => ∀ w' v, w'.S = S' → Step K w1 w' → Rep K w'.toGd d v → Q v w'.H) (fun x S' => ∀ w' c d, w'.S = S' → Step K w1 w' → RepX K w'.toGd x c d → E c d w'.H) →
    FnAt fa s1.heap ∧ codeAny (model P wd) A (.call (.ref fa) ⟨[], []⟩) (CR (L2.CX P wd) outer P wd w1.H s1 Q E) s1
section
variable {K : Frag} {w0 w w1 : Wd} {W : WX} {X : Cx} {ρ : Rh} {σ : L2.St} {pins : List (Addr × Obj)} {s s1 : Shared} {pos p : Pos} {k : Nat}
theorem Acts.mono {P : Program} {wd : World} {mg : Str → Option Value} {base : Heap} {fs : List Addr} {fa : Addr} {m : M D} {j : Nat} (h : Acts P wd K mg base j fs s w fa m) (l : j ≤ k) : Acts P wd K mg base k fs s w fa m :=
  fun A outer s1 w1 Q E hr e0 un os st q => h A outer s1 w1 Q E (hr.mono l) e0 un os st q
def fnM {α : Type} (m : M α) : Option Sl → M α
  | some .fn => m
  | _ => fail
theorem fnM_is {α : Type} {m : M α} {S : Sv} {Q : α → Sv → Prop} {E : Xn → Sv → Prop} : ∀ {o : Option Sl}, fnM m o S Q E → o = some .fn ∧ m S Q E
  | some .fn, h => ⟨rfl, h⟩
  | none, h | some .un, h | some (.sh _), h | some (.ol _), h | some (.oi _ _ _), h | some (.ex _), h => h.elim
def actM (i : Nat) (m : M D) (ρ : Rh) : M D := fnM m ρ[i]?
def actV (i : Nat) (ρ : Rh) : M (List D) := fnM (ret []) ρ[i]?
def tabM (x q : Str) : M (List D) := fun S Q _ => Cell.tb x q ∈ S ∧ Q [] S
structure LamT (K : Frag) (base : Heap) (mg : Str → Option Value) (x : Str) : Prop where
  tb : LamX.TabB base mg (tabK K x).1 (tabK K x).2
end
section
variable {K : Frag} {w0 w w1 : Wd} {W : WX} {X : Cx} {ρ : Rh} {σ : L2.St} {pins : List (Addr × Obj)} {s s1 : Shared} {pos p : Pos} {k : Nat}
structure DF (K : Frag) (w0 : Wd) (W : WX) (X : Cx) (k : Nat) (es : List Expr) (m : Rh → M (List D)) (F : Rh → M D) : Prop where
  mono : ∀ ρ, Mono (m ρ)
  monoF : ∀ ρ, Mono (F ρ)
  run : ∀ (pos : Pos) (pins : List (Addr × Obj)) (s : Shared) (σ : L2.St) (ρ : Rh) (w : Wd) (Qd : List D → Sv → Prop) (Ed : Xn → Sv → Prop), Inv X pins σ w.H s → At K w0 w ρ σ → m ρ w.S Qd Ed → ExcE K w0 W w ρ σ Ed →
    wpAny (model X.prog X.w) X.A (spliced (backTo pos (starEach es X.env))) (fun us s1 => ∃ us0 vs ds fa w1, us = us0 ++ [.ref fa] ∧ Inv X pins σ w1.H s1 ∧ Nx K w0 w w1 ρ σ ∧ Vals vs us0 ∧ RepL K w1.toGd ds vs ∧ Acts X.prog X.w X.K X.mg X.base k (frs X.stack) s1 w1 fa (F ρ) ∧ Qd ds w1.S) X.xe s
end
def mkG (n N : Nat) (code : Sm) : List D → M D := fun ds S Q E => match Nat.beq (ds.length + 1) n with
  | true => code (ds.map Sl.sh ++ .fn :: List.replicate (N - n) Sl.un) S (endsF Q E)
  | false => False
structure GD (P : Program) (wd : World) (K : Frag) (mg : Str → Option Value) (base : Heap) (k j : Nat) (x : Str) (F : M D → List D → M D) : Prop where
  mono : ∀ m, Mono m → ∀ ds, Mono (F m ds)
  ok : ∀ (A : Around) (outer : List Env) (s : Shared) (w : Wd) (us : List Value) (vs : List V) (ds : List D) (fa : Addr) (m : M D) (Q : VK) (E : XK), Room k A → Env0 P wd K mg base A outer s w.H → Vals vs us → Wok K w → RepL K w.toGd ds vs → Mono m → Acts P wd K mg base j (frs outer) s w fa m →
    F m ds w.S (fun d S' => ∀ w' v, w'.S = S' → Step K w w' → Rep K w'.toGd d v → Q v w'.H) (fun x S' => ∀ w' c d, w'.S = S' → Step K w w' → RepX K w'.toGd x c d → E c d w'.H) →
    codeAny (model P wd) A (.call (.ref (He.ga K x)) ⟨us ++ [.ref fa], []⟩) (CR (L2.CX P wd) outer P wd w.H s Q E) s
  kp : PySem.W.keepIn K (.ref (He.ga K x)) = true
  gl : mg x = some (.ref (He.ga K x))
section
variable {P : Program} {wd : World} {K : Frag} {mg : Str → Option Value} {base : Heap}
end
section
variable {K : Frag} {w0 w w1 : Wd} {W : WX} {X : Cx} {pos p : Pos} {k j : Nat} {G : M D → List D → M D}
end
end Dn

namespace Dn
open PySem PySem.W PySem.Spec PyProof.Rows L2 TL Bits An
section
variable {P : Program} {wd : World} {K : Frag} {mg : Str → Option Value} {base : Heap}
end
end Dn

namespace Dn
open PySem PySem.W PySem.Spec PyProof.Rows L2 TL Bits An
def allBl : List D → Option (List Bool)
  | [] => some []
  | .bl b :: r => (allBl r).map (b :: ·)
  | _ => none
def cntB (k : Bool) : List Bool → Int
  | [] => 0
  | b :: r => match b == k with
    | true => 1 + cntB k r
    | false => cntB k r
def lcountD (d : D) (ds : List D) : M D := match d, ds with
  | .lst xs, [.bl k] => orFail ((allBl xs).map fun bs => .int (cntB k bs))
  | _, _ => fail
section
variable {K : Frag} {w0 w w1 : Wd} {W : WX} {X : Cx} {ρ : Rh} {σ : L2.St} {pins : List (Addr × Obj)} {s : Shared} {pos : Pos}
theorem allBl_rep {G : Gd} : ∀ {xs : List D} {bs : List Bool} {vs : List V}, allBl xs = some bs → RepL K G xs vs → vs = bs.map V.bl
  | [], bs, vs, h, r => by
    unfold allBl at h
    cases h
    unfold RepL at r
    exact r
  | d :: xs, bs, vs, h, r => by
    cases d <;> first | (unfold allBl at h; cases h; done) | skip
    rename_i b
    unfold allBl at h
    cases e : allBl xs with
    | none => rw [e] at h; cases h
    | some bs' =>
      rw [e] at h
      cases h
      unfold RepL at r
      obtain ⟨v, r', rfl, h2, h3⟩ := r
      unfold Rep at h2
      rw [allBl_rep e h3, h2]
      rfl
theorem vals_bools : ∀ {bs : List Bool} {us : List Value}, Vals (bs.map V.bl) us → us = bs.map Value.bool
  | [], _, .nil => rfl
  | _ :: _, _, .cons h t => by
    rw [vals_bools t]
    have h : _ = _ := h
    rw [h]
    rfl
theorem cnt_eq (k : Bool) : ∀ bs : List Bool, (((bs.map Value.bool).countP (isBoolOf k) : Nat) : Int) = cntB k bs
  | [] => rfl
  | b :: bs => by
    rw [List.map_cons, List.countP_cons]
    have ih := cnt_eq k bs
    unfold cntB
    show ((_ + (if (b == k) = true then 1 else 0) : Nat) : Int) = _
    cases b == k
    · simpa using ih
    · simp only [if_true]
      push_cast
      omega
theorem jm_lcount : JMA K w0 W X "list.count" lcountD := fun d ds => by
  unfold lcountD
  split
  case h_2 => exact JM.no
  rename_i xs k
  cases e : allBl xs with
  | none => exact JM.no
  | some bs =>
    refine ⟨mono_ret, fun pins s σ ρ w x v xs' us Q I at_ rx rd rv rl q => ?_⟩
    unfold RepL at rl
    obtain ⟨y, r, rfl, h2, h3⟩ := rl
    unfold RepL at h3
    subst h3
    unfold Rep at h2
    subst h2
    cases rv with
    | cons hu ht =>
      cases ht
      rename_i u
      obtain rfl : u = Value.bool k := hu
      unfold Rep at rd
      obtain ⟨a, vs, rfl, h1, h2⟩ := rd
      obtain rfl : v = Value.ref a := rx
      obtain rfl := allBl_rep e h2
      obtain ⟨_, its, n, rvs, ho⟩ := (show ObjOk X.prog X.w w.H s.heap a (.lst (bs.map V.bl)) from (rd_le at_.st.ok.le h1).ok I.hok)
      obtain rfl := vals_bools rvs
      refine call_meets PySem.F.slot_list_count ⟨_, ho, rfl⟩ PySem.F.entry_list_count (PySem.F.args_list_count_2 _ _) (PySem.SeqAt.list_countAt a (bs.map Value.bool).toArray n none #[] (.bool k) (isBoolOf k)) ⟨ho, fun y hy => ?_, ?_⟩
      · have hy : y ∈ bs.map Value.bool := by simpa using hy
        obtain ⟨b, _, rfl⟩ := List.mem_map.mp hy
        exact PySem.SeqAt.EqAt.bool_bool b k
      · rw [show (bs.map Value.bool).toArray.toList = bs.map Value.bool from rfl, cnt_eq k bs]
        exact ⟨.int (cntB k bs), w.H, I.tok _, ⟨_, rfl⟩, Run.fin at_ q rInt⟩
end
end Dn

namespace Dn
open PySem PySem.W PySem.Spec PyProof.Rows L2 TL Bits An
def idxI (k : Int) : List Int → Option Nat
  | [] => none
  | x :: r => if x = k then some 0 else (idxI k r).map (· + 1)
def lindexD (d : D) (ds : List D) : M D := match d, ds with
  | .lst xs, [.int k] => orFail (((intsL xs).bind (idxI k)).map fun j : Nat => D.int (j : Int))
  | _, _ => fail
def dct1 (i : Int) (d : D) : M D := match d with
  | .str z => ret (.dct [.str z] [.int i])
  | _ => fail
section
variable {K : Frag} {w0 w w1 : Wd} {W : WX} {X : Cx} {ρ : Rh} {σ : L2.St} {pins : List (Addr × Obj)} {s : Shared} {pos : Pos}
end
end Dn

namespace Dn
open PySem PySem.W PySem.Spec PyProof.Rows L2 TL Bits An
theorem bb_repr : bootBuiltins "repr" = some (.builtin "repr") := by decide +kernel
def reprD : List D → M D
  | [.int i] => need (i.natAbs.log2 < 1920) (ret (.str (toString i)))
  | [.bl b] => ret (.str (if b then "True" else "False"))
  | [.non] => ret (.str "None")
  | [.str z] => need ((PySem.reprText z).length ≤ sizeLine) (ret (.str (PySem.reprText z)))
  | _ => fail
theorem mono_repr {ds : List D} : Mono (reprD ds) := by unfold reprD; split <;> first | exact mono_ret | exact mono_need mono_ret | exact mono_fail
section
variable {K : Frag} {w0 w w1 : Wd} {W : WX} {X : Cx} {ρ : Rh} {σ : L2.St} {pins : List (Addr × Obj)} {s : Shared} {pos : Pos} {k : Nat}
theorem jc_repr (hK : X.K = K := by rfl) : JCA K w0 W X (.builtin "repr") reprD := fun ds => by
  subst hK
  refine ⟨mono_repr, fun pins s σ ρ w xs us Q I at_ rv rl r => ?_⟩
  unfold reprD at r
  split at r
  · obtain ⟨v, rfl, r1⟩ := rl.inv1
    obtain ⟨u, rfl, ru⟩ := rv.one
    unfold Rep at r1; subst r1
    obtain ⟨t, rfl⟩ := ru
    exact PySem.P.repr_of_int r.1 ⟨.str _, w.H, I.tok _, ⟨_, rfl⟩, Run.fin at_ (Run.need r).2 rStr⟩
  · obtain ⟨v, rfl, r1⟩ := rl.inv1
    obtain ⟨u, rfl, ru⟩ := rv.one
    unfold Rep at r1; subst r1
    cases ru
    exact PySem.P.repr_of_bool ⟨.str _, w.H, I.tok _, ⟨_, rfl⟩, Run.fin at_ r rStr⟩
  · obtain ⟨v, rfl, r1⟩ := rl.inv1
    obtain ⟨u, rfl, ru⟩ := rv.one
    unfold Rep at r1; subst r1
    cases ru
    exact PySem.P.repr_of_none ⟨.str _, w.H, I.tok _, ⟨_, rfl⟩, Run.fin at_ r rStr⟩
  · obtain ⟨v, rfl, r1⟩ := rl.inv1
    obtain ⟨u, rfl, ru⟩ := rv.one
    unfold Rep at r1; subst r1
    obtain ⟨t, rfl⟩ := ru
    exact PySem.P.repr_of_str (hsz := r.1) ⟨.str _, w.H, I.tok _, ⟨_, rfl⟩, Run.fin at_ (Run.need r).2 rStr⟩
  · exact r.elim
end
end Dn

namespace Dn
open PySem PySem.W PySem.Spec PyProof.Rows L2 TL Bits An
end Dn

namespace Dn
open PySem PySem.W PySem.Spec PyProof.Rows L2 TL Bits An
def isiX (xs : List Str) (base : List D → M D) (ds : List D) : M D := match ds with
  | [.xn c _ _, t] => orFail ((isXV xs c t).map .bl)
  | ds => base ds
def xfD (cs : List Str) (f : Str) (x : D) : M D := match x with
  | .xn c ns ds => (match cs.contains c with
    | true => fldOf f ns ds
    | false => fail)
  | _ => fail
theorem mono_xfD {cs : List Str} {f : Str} {x : D} : Mono (xfD cs f x) := by
  unfold xfD
  split
  · split
    · exact mono_fldOf
    · exact mono_fail
  · exact mono_fail
section
variable {K : Frag} {w0 w w1 : Wd} {W : WX} {X : Cx} {ρ : Rh} {σ : L2.St} {pins : List (Addr × Obj)} {s : Shared} {pos p p1 : Pos} {k : Nat}
theorem rep_xn {c : Str} {ns : List Str} {ds : List D} {v : V} (ok : Wok K w) (h : Rep K w.toGd (.xn c ns ds) v) : ∃ a d vs, v = .ref a ∧ w.H a = some (ExvO (.ref (He.ga K c)) d a) ∧ ((ns = [] ∧ d = none) ∨ ∃ dd, d = some dd ∧ w.H dd = some (.xd (ns.zip vs))) ∧ ns.length = vs.length ∧ RepL K w.toGd ds vs := by
  unfold Rep at h
  obtain ⟨a, d, vs, h1, h2, h3, h4, h5⟩ := h
  refine ⟨a, d, vs, h1, ok.le _ _ h2, ?_, h4, h5⟩
  rcases h3 with h3 | ⟨dd, h6, h7⟩
  · exact .inl h3
  · exact .inr ⟨dd, h6, ok.le _ _ h7⟩
def KpX (K : Frag) (w0 w : Wd) (ρ : Rh) (σ : L2.St) (x : Str) (ns : List Str) (Qd : D → Sv → Prop) : XK := fun cls d H' => cls = .ref (He.ga K x) ∧ ∃ w1 dv, H' = w1.H ∧ Nx K w0 w w1 ρ σ ∧ Qd (.xn x ns dv) w1.S ∧ ns.length = dv.length ∧ ∃ vs, RepL K w1.toGd dv vs ∧ ((ns = [] ∧ d = none) ∨ ∃ dd, d = some dd ∧ w1.F dd = some (.xd (ns.zip vs)))
theorem keep_x {x : Str} {ns : List Str} {Qd : D → Sv → Prop} {u : Value} {s1 : Shared} (g : MkP X pins σ (KpX X.K w0 w ρ σ x ns Qd) u s1) : GotE X.K w0 X pins σ ρ w Qd u s1 := by
  obtain ⟨a, oe, vs0, sI, H', cls, d, rfl, J, k, hne, ha, hz, hd, h1, na, os, ag, _, rfl, w1, dv, rfl, n, q, hl, vs, rl, hx⟩ := g
  have new : ObjOk X.prog X.w (upd w1.H a (ExvO (.ref (He.ga X.K x)) d a)) s1.heap a (ExvO (.ref (He.ga X.K x)) d a) :=
    ⟨⟨oe, vs0, ha, hz, hd⟩, ⟨oe, ha⟩, fun _ _ ⟨o, v, e, r⟩ kk => ⟨o, v, kk o e, r⟩⟩
  have I1 : Inv X pins σ (upd w1.H a (ExvO (.ref (He.ga X.K x)) d a)) s1 := J.call' os (Un.laidN (ex := []) k hne na) (J.hok.laidN k na new) ag (fun b z => absurd z (by simp))
  have st := Step.lay (o := ExvO (.ref (He.ga X.K x)) d a) n.at_.st.ok na
  refine ⟨.ref a, .xn x ns dv, w1.lay a (ExvO (.ref (He.ga X.K x)) d a), I1, n.trans (n.at_.nx st), rfl, ?_, q⟩
  unfold Rep
  refine ⟨a, d, vs, rfl, upd_same, ?_, by rw [hl, RepL.length rl], RepL.le st.le _ rl⟩
  rcases hx with hx | ⟨dd, h6, h7⟩
  · exact .inl hx
  · exact .inr ⟨dd, h6, st.le.f _ _ h7⟩
theorem de_newX0 {x : Str} (C : XcC K x) (hm : X.mg x = some (.ref (He.ga K x))) (hK : X.K = K := by rfl) (hg : Gl X x := by rfl) (hdb : (x == ("__debug__" : Str)) = false := by decide) :
    DE K w0 W X (.Call (.Name x p) [] [] pos) (fun _ => ret (.xn x [] [])) := by
  subst hK
  refine .mk' (fun _ => mono_ret) fun pins s σ ρ w Qd Ed I at_ r hE => ?_
  refine thn (pmk0 C hm hg hdb pins s σ w.H (KpX X.K w0 w ρ σ x [] Qd) I ?_) fun _ _ g => keep_x g
  exact ⟨rfl, w, [], rfl, at_.here, r, rfl, [], RepL.nil, .inl ⟨rfl, rfl⟩⟩
theorem de_newXI {x f : Str} {e : Expr} {m : Rh → M D} (C : FX X.prog X.w K X.mg X.base x f) (hr : Room 2 X.A) (tk : Takes X W) (he : DE K w0 W X e m) (hK : X.K = K := by rfl) (hg : Gl X x := by rfl) (hdb : (x == ("__debug__" : Str)) = false := by decide)
    (hs : starEach [e] X.env = (false, eval e X.env) :: starEach [] X.env := by rfl) : DE K w0 W X (.Call (.Name x p) [e] [] pos) (fun ρ => bind (m ρ) fun d => ret (.xn x [f] [d])) := by
  subst hK
  refine .mk' (fun ρ => mono_bind (he.mono ρ) fun _ => mono_ret) fun pins s σ ρ w Qd Ed I at_ r hE => ?_
  obtain ⟨fd, ps, FO, BO⟩ := C.ok
  have pm := pmk_oex (p := p) (pos := pos) (dvs := []) (ds := []) C.ini.ok C.ini.ini C.ini.ty FO hr BO .nil (passes_call tk (fun _ _ _ _ z => z.elim)) hg C.gl (pa_cons he.pe pa_nil hs) hdb hs rfl
  refine thn (pm pins s σ w.H (KpX X.K w0 w ρ σ x [f] Qd) I ?_) fun _ _ g => keep_x g
  · refine ⟨w, ρ, rfl, at_, ?_⟩
    refine he.mono ρ _ _ _ _ _ (fun d S' q w' v e n rr => ?_) (fun y S' q w' c d e n rx => hE y w' c d (by rw [e]; exact q) n rx) r
    subst e
    refine ⟨by show 1 ≤ 1000; decide, fun a ha => ⟨a, v, rfl, upd_same, fun dx hdx ne => ⟨rfl, dx, [(f, v)], upd_same, ?_, ?_, ?_⟩⟩⟩
    · rw [upd_ne ne, upd_same]
    · rw [upd_ne ne] at hdx; exact hdx
    · have hd0 : w'.H dx = none := by rw [upd_ne ne] at hdx; exact hdx
      have eH : upd (del (upd (upd (upd w'.H a (exo a (He.ga X.K x) none)) dx (exd dx [(f, v)])) a (exo a (He.ga X.K x) (some dx))) a) dx (.xd [(f, v)]) = (w'.lay dx (.xd [(f, v)])).H := by
        funext b
        show _ = upd w'.H dx (.xd [(f, v)]) b
        by_cases hb : b = dx
        · rw [hb, upd_same, upd_same]
        · rw [upd_ne hb, upd_ne hb]
          by_cases hba : b = a
          · rw [hba, del_same, ha]
          · rw [del_ne hba, upd_ne hba, upd_ne hb, upd_ne hba]
      rw [eH]
      have st := Step.lay (o := HO.xd [(f, v)]) n.at_.st.ok hd0
      exact ⟨rfl, w'.lay dx (.xd [(f, v)]), [d], rfl, n.trans (n.at_.nx st), q, rfl, [v], RepL.cons (Rep.le st.le _ rr) RepL.nil, .inr ⟨dx, rfl, upd_same⟩⟩
theorem exv_at {a : Addr} {c : Str} {d : Option Addr} {ns : List Str} {vs : List V} (I : Inv X pins σ w.H s) (h : w.H a = some (ExvO (.ref (He.ga X.K c)) d a)) (hx : (ns = [] ∧ d = none) ∨ ∃ dd, d = some dd ∧ w.H dd = some (.xd (ns.zip vs))) :
    ∃ oe od, PySem.W.InstAt s.heap a oe (He.ga X.K c) od := by
  obtain ⟨⟨oe, fs, hget, hz, hd⟩, _⟩ := I.hok a _ h
  rcases hx with ⟨_, ed⟩ | ⟨dd, ed, hF⟩
  · exact ⟨oe, none, hget, hz.1, by unfold PySem.W.notCls; rw [hd] <;> rfl, by rw [hz.2, ed] <;> trivial⟩
  · obtain ⟨od, ho⟩ := objOk_get (I.hok dd _ hF)
    exact ⟨oe, some od, hget, hz.1, by unfold PySem.W.notCls; rw [hd] <;> rfl, by rw [hz.2, ed]; exact ho⟩
theorem jc_isiX {xs : List Str} {base : List D → M D} (hk : XkOk K xs) (hb : JCA K w0 W X (.builtin "isinstance") base) (hK : X.K = K := by rfl) : JCA K w0 W X (.builtin "isinstance") (isiX xs base) := fun ds => by
  subst hK
  unfold isiX
  split
  case h_2 => exact hb _
  rename_i c ns ds t
  refine ⟨mono_orFail, fun pins s σ ρ w xs0 us Q I at_ rv rl r => ?_⟩
  obtain ⟨v1, v2, rfl, q1, q2⟩ := rl.inv2
  obtain ⟨u1, u2, rfl, r1, r2⟩ := vals2 rv
  obtain ⟨a, d, vs, rfl, h1, h2, h3, h4⟩ := rep_xn at_.st.ok q1
  cases (show u1 = Value.ref a from r1)
  obtain ⟨oe, od, J⟩ := exv_at I h1 h2
  cases e : isXV xs c t with
  | none => rw [e] at r; exact r.elim
  | some b =>
    rw [e] at r
    have fin : ∀ tk, EP X pins σ Q (.bool b) { s with toks := tk } := fun tk => ⟨.bl b, w.H, I.tok tk, rfl, Run.fin at_ r rBl⟩
    unfold isXV at e
    by_cases hmem : xs.contains c = true
    case neg => rw [if_neg hmem] at e; cases e
    rw [if_pos hmem] at e
    obtain ⟨c1, c2, c3, c4, c5, c6, c7, c8⟩ := hk.cl c (by simpa using hmem)
    have kx := PySem.W.kitx_exc (x := a) (ox := oe) (od := od) c1 c2 c3 c4 c5 c6 c7 c8
    split at e
    · obtain ⟨ta, cs, rfl, h5, h6⟩ := rep_tup at_.st.ok q2
      obtain ⟨us, h7, h8⟩ := isXL_ok hk h6 e
      cases (show u2 = Value.ref ta from r2)
      obtain ⟨its, rv2, ⟨o, g1, g2, m, g3⟩, _⟩ := I.tuple h5
      have e3 := ClsV.all h7 rv2
      subst e3
      obtain ⟨oc, od', dt, sl⟩ := o
      simp only at g2 g3
      subst g2 g3
      exact PySem.W.kia_tup kx I.kIn J g1 h8 (fun z => nomatch z) fin
    · obtain ⟨uu, h7, h8, _⟩ := isX1_ok hk q2 e
      have e4 := h7.eq r2
      subst e4
      exact PySem.W.kia_one kx I.kIn J h8 (fun z => nomatch z) fin
theorem de_xfD {e : Expr} {f : Str} {m : Rh → M D} {cs : List Str} (hc : XfOk K f cs) (he : DE K w0 W X e m) (hK : X.K = K := by rfl) (hab : attributeBase e f X.env (eval e X.env) = eval e X.env := by rfl) :
    DE K w0 W X (.Attribute e f pos) (fun ρ => bind (m ρ) (xfD cs f)) := by
  subst hK
  refine .mk' (fun ρ => mono_bind (he.mono ρ) fun _ => mono_xfD) fun pins s σ ρ w Qd Ed I at_ r hE => attr_of hab (thn (he.raw I at_ r hE) ?_)
  rintro u s1 ⟨z, d, w1, I1, n1, rz, rd, q⟩
  suffices hh : wpAny (model X.prog X.w) X.A (getAttr u f true) (GotE X.K w0 X pins σ ρ w1 Qd) X.xe s1 from thn hh fun _ _ g => g.nw n1
  cases d <;> first | exact q.elim | skip
  case xn c ns ds =>
    have q : (match cs.contains c with | true => fldOf f ns ds | false => fail) w1.S Qd Ed := q
    cases hm : cs.contains c with
    | false => rw [hm] at q; exact q.elim
    | true =>
    rw [hm] at q
    have q : fldOf f ns ds w1.S Qd Ed := q
    obtain ⟨T, hno⟩ := hc.ok c (by simpa using hm)
    obtain ⟨a, d, vs, rfl, h1, h2, h3, h4⟩ := rep_xn n1.at_.st.ok rd
    obtain rfl : u = Value.ref a := rz
    have q : (match (ns.zip ds).lookup f with | some d => ret d | none => fail) w1.S Qd Ed := q
    cases hl : (ns.zip ds).lookup f with
    | none => rw [hl] at q; exact q.elim
    | some dv =>
    rw [hl] at q
    rcases h2 with ⟨e0, _⟩ | ⟨dd, ed, hF⟩
    · rw [e0] at hl; cases hl
    obtain ⟨v, hv1, rv⟩ := lookup_rep h4 hl
    subst ed
    obtain ⟨⟨oe, fs, hget, hz, hd⟩, _⟩ := I1.hok a _ h1
    have hx : ObjOk X.prog X.w w1.H s1.heap dd (.xd (ns.zip vs)) := I1.hok dd _ hF
    obtain ⟨mA, hns, hr⟩ := hx
    obtain ⟨od, ho, hlk⟩ := lookIn_ns hns
    obtain ⟨u2, hu, ru⟩ := RelO.some_of (v := v) (o := mA f) (by rw [← hv1]; exact hr f)
    have J : PySem.W.InstAt s1.heap a oe (He.ga X.K c) (some od) := ⟨hget, hz.1, by unfold PySem.W.notCls; rw [hd] <;> rfl, by rw [hz.2]; exact ho⟩
    exact HandSPX.exc_get I1.kIn J T.ga T.gg T.exC (PySem.W.findObj_own T.hdC hno rfl (by rw [hlk, hu])) (handed_of ru) ⟨v, dv, w1, I1.tok _, n1.at_.here, ru, rv, q⟩
end
def idxB (k : Bool) : List Bool → Option Nat
  | [] => none
  | x :: r => if x = k then some 0 else (idxB k r).map (· + 1)
theorem idxB_spec {k : Bool} : ∀ {ns : List Bool} {j : Nat}, idxB k ns = some j → ns[j]? = some k ∧ ∀ (m : Nat) (x : Bool), m < j → ns[m]? = some x → x ≠ k
  | [], _, h => by cases h
  | x :: r, j, h => by
    unfold idxB at h
    split at h
    · rename_i e
      cases h
      exact ⟨by rw [e]; rfl, fun m y hm => absurd hm (Nat.not_lt_zero m)⟩
    · rename_i e
      obtain ⟨j', h1, rfl⟩ := Option.map_eq_some_iff.mp h
      obtain ⟨a, b⟩ := idxB_spec h1
      refine ⟨by rw [List.getElem?_cons_succ]; exact a, fun m y hm hy => ?_⟩
      cases m with
      | zero =>
        have : x = y := by simpa using hy
        rw [← this]; exact e
      | succ m =>
        rw [List.getElem?_cons_succ] at hy
        exact b m y (by omega) hy
def lindexB (d : D) (ds : List D) : M D := match d, ds with
  | .lst xs, [.bl k] => orFail (((allBl xs).bind (idxB k)).map fun j : Nat => D.int (j : Int))
  | _, _ => fail
section
variable {K : Frag} {w0 w w1 : Wd} {W : WX} {X : Cx} {ρ : Rh} {σ : L2.St} {pins : List (Addr × Obj)} {s : Shared} {pos : Pos}
theorem jm_lindexB (hK : X.K = K := by rfl) : JMA K w0 W X "list.index" lindexB := fun d ds => by
  subst hK
  unfold lindexB
  split
  case h_2 => exact JM.no
  rename_i xs k
  cases e : allBl xs with
  | none => exact JM.no
  | some ns =>
    cases e2 : idxB k ns with
    | none =>
      have : orFail (((some ns).bind (idxB k)).map fun j : Nat => D.int (j : Int)) = fail := by
        show orFail ((idxB k ns).map _) = fail
        rw [e2]; rfl
      rw [this]
      exact JM.no
    | some j =>
      have : orFail (((some ns).bind (idxB k)).map fun j : Nat => D.int (j : Int)) = ret (.int (j : Int)) := by
        show orFail ((idxB k ns).map _) = _
        rw [e2]; rfl
      rw [this]
      obtain ⟨a1, a2⟩ := idxB_spec e2
      refine JM.of mt_index mono_ret fun σ ρ w x xs' Q at_ rx rl r => ?_
      obtain ⟨a, vs, rfl, h1, h2, _⟩ := rep_lst at_.st.ok rx
      obtain ⟨v, rfl, r1⟩ := rl.inv1
      unfold Rep at r1
      subst r1
      obtain rfl := allBl_rep e h2
      refine ⟨a, _, .bl k, j, .bl k, rfl, rfl, h1, rfl, ?_, by rw [List.getElem?_map, a1]; rfl, ?_, fun m z hm hz => ?_, Run.fin at_ r rInt⟩
      · rw [List.all_map]; exact List.all_eq_true.mpr fun _ _ => rfl
      · cases k <;> rfl
      · rw [List.getElem?_map] at hz
        obtain ⟨y, hy, rfl⟩ := Option.map_eq_some_iff.mp hz
        have := a2 m y hm hy
        cases y <;> cases k <;> first | rfl | exact absurd rfl this
end
end Dn

namespace An
open PySem PySem.W PySem.Spec PyProof.Rows L2 TL Bits
def digS : Str := "0123456789"
def isDg (c : Nat) : Bool := decide (c ∈ digS.cps.toList)
def partFault (l : List Nat) : Option Str :=
  if l = [] then some ("empty" : Str) else if (l.all isDg) = false then some ("digits" : Str) else if 3 < l.length then some ("long" : Str) else if l.head? = some 48 ∧ l ≠ [48] then some ("zero" : Str)
  else if 255 < NumText.digitsVal l then some ("large" : Str) else none
def firstFault : List (List Nat) → Option Str
  | [] => none
  | p :: r => match partFault p with
    | some w => some w
    | none => firstFault r
def sp1 (s : Nat) : List Nat → List Nat → List (List Nat)
  | acc, [] => [acc]
  | acc, c :: r => if c = s then acc :: sp1 s [] r else sp1 s (acc ++ [c]) r
theorem sp1_spl (s : Nat) : ∀ (l acc : List Nat), spl [s] 0 acc l = sp1 s acc l
  | [], acc => spl_nil _ _ _
  | c :: r, acc => by
    by_cases h : c = s
    · subst h
      rw [spl_hit (by unfold pre; simp), show ([c] : List Nat).length - 1 = 0 from rfl, sp1_spl c r []]
      show _ = if c = c then acc :: sp1 c [] r else _
      rw [if_pos rfl]
    · rw [spl_miss (pre_of_head [] r h), sp1_spl s r]
      show _ = if c = s then _ else sp1 s (acc ++ [c]) r
      rw [if_neg h]
theorem sp1_len {s : Nat} : ∀ (l acc p : List Nat), p ∈ sp1 s acc l → p.length ≤ acc.length + l.length
  | [], acc, p, h => by
    have e : p = acc := List.mem_singleton.mp h
    rw [e]; simp
  | c :: r, acc, p, h => by
    unfold sp1 at h
    split at h
    · rcases List.mem_cons.mp h with e | h
      · rw [e]; simp
      · have := sp1_len r [] p h
        simp at this ⊢; omega
    · have := sp1_len r _ p h
      simp at this ⊢; omega
theorem sp1_many {s : Nat} : ∀ (l acc : List Nat), (sp1 s acc l).length ≤ l.length + 1
  | [], acc => by unfold sp1; simp
  | c :: r, acc => by
    unfold sp1
    split
    · have := sp1_many (s := s) r []
      simp; omega
    · have := sp1_many (s := s) r (acc ++ [c])
      simp; omega
def dots (t : List Nat) : List (List Nat) := sp1 46 [] t
theorem split_dots (z : Str) : (Txt.split z ("." : Str)).map tl = dots (tl z) := by
  have e : tl ("." : Str) = [46] := by decide +kernel
  rw [split_spl z ("." : Str) (by rw [e]; simp) (kind_ok (by decide +kernel)), e, sp1_spl]; rfl
theorem fault_none {l : List Nat} (h : partFault l = none) : l ≠ [] ∧ l.all isDg = true ∧ l.length ≤ 3 ∧ ¬ (l.head? = some 48 ∧ l ≠ [48]) ∧ NumText.digitsVal l ≤ 255 := by
  unfold partFault at h
  split at h
  · cases h
  split at h
  · cases h
  split at h
  · cases h
  split at h
  · cases h
  split at h
  · cases h
  rename_i h1 h2 h3 h4 h5
  exact ⟨h1, by simpa using h2, by omega, h4, by omega⟩
def quadFault (t : List Nat) : Option Str := if (dots t).length = 4 then firstFault (dots t) else some ("parts" : Str)
def quadVal (ps : List (List Nat)) : Nat := ps.foldl (fun a p => a * 256 + NumText.digitsVal p) 0
theorem isDg_iff {c : Nat} : isDg c = true ↔ 48 ≤ c ∧ c ≤ 57 := by
  have e : digS.cps.toList = [48, 49, 50, 51, 52, 53, 54, 55, 56, 57] := by decide +kernel
  unfold isDg
  rw [decide_eq_true_iff, e]
  simp only [List.mem_cons, List.not_mem_nil, or_false]
  omega
theorem allDg {l : List Nat} (h : l.all isDg = true) : NumText.AllDigits l := fun c hc => isDg_iff.mp (List.all_eq_true.mp h c hc)
theorem first_none : ∀ {ps : List (List Nat)}, firstFault ps = none → ∀ p ∈ ps, partFault p = none
  | [], _, p, h => by cases h
  | x :: r, e, p, h => by
    unfold firstFault at e
    cases hf : partFault x with
    | some w => rw [hf] at e; cases e
    | none =>
      rw [hf] at e
      rcases List.mem_cons.mp h with q | q
      · rw [q]; exact hf
      · exact first_none e p q
theorem quad_none {t : List Nat} (h : quadFault t = none) : (dots t).length = 4 ∧ ∀ p ∈ dots t, partFault p = none := by
  unfold quadFault at h
  split at h
  · rename_i h4
    exact ⟨h4, first_none h⟩
  · cases h
def numS (i : Int) : Str := Str.ofString (toString i)
def quadParts (n : Int) : List Str := [24, 16, 8, 0].map fun s : Nat => numS (n / 2 ^ s % 256)
theorem numS_tl {i : Int} (h : 0 ≤ i) : tl (numS i) = numL i.toNat := by
  obtain ⟨k, rfl⟩ := Int.eq_ofNat_of_zero_le h
  unfold numS
  rw [tl_num]; rfl
theorem numS_len {i : Int} (h0 : 0 ≤ i) (h1 : i < 256) : (numS i).length ≤ 3 := by
  rw [len_tl, numS_tl h0]
  exact numL_len (by decide) (by omega)
theorem part_b (n : Int) (s : Nat) : 0 ≤ n / 2 ^ s % 256 ∧ n / 2 ^ s % 256 < 256 := ⟨Int.emod_nonneg _ (by decide), Int.emod_lt_of_pos _ (by decide)⟩
theorem quadParts_sz {n : Int} (h : 0 ≤ n) : ((quadParts n).map fun x => x.length).sum + (quadParts n).length * ("." : Str).length ≤ 16777216 := by
  have a := fun s => numS_len (part_b n s).1 (part_b n s).2
  have l1 : ("." : Str).length = 1 := by decide +kernel
  rw [l1]
  unfold quadParts
  simp only [List.map_cons, List.map_nil, List.sum_cons, List.sum_nil, List.length_cons, List.length_nil]
  have a1 := a 24
  have a2 := a 16
  have a3 := a 8
  have a4 := a 0
  omega
def quadS (n : Int) : Str := Txt.join ("." : Str) (quadParts n)
theorem joinL_len (S : List Nat) : ∀ ps : List (List Nat), (joinL S ps).length ≤ (ps.map List.length).sum + ps.length * S.length
  | [] => by simp [joinL]
  | [p] => by simp [joinL]
  | p :: q :: r => by
    have ih := joinL_len S (q :: r)
    have e : joinL S (p :: q :: r) = p ++ (S ++ joinL S (q :: r)) := rfl
    rw [e]
    simp only [List.length_append, List.map_cons, List.sum_cons, List.length_cons] at ih ⊢
    rw [Nat.succ_mul]
    omega
theorem quadS_tl (n : Int) : tl (quadS n) = joinL [46] ((quadParts n).map tl) := by
  unfold quadS
  rw [join_eq, tl_join]
  have e : tl ("." : Str) = [46] := by decide +kernel
  rw [e]
theorem quadS_len {n : Int} (h : 0 ≤ n) : (quadS n).length ≤ 16 := by
  rw [len_tl, quadS_tl]
  refine Nat.le_trans (joinL_len _ _) ?_
  have a := fun s => numS_len (part_b n s).1 (part_b n s).2
  unfold quadParts
  simp only [List.map_cons, List.map_nil, List.sum_cons, List.sum_nil, List.length_cons, List.length_nil, ← len_tl]
  have a1 := a 24
  have a2 := a 16
  have a3 := a 8
  have a4 := a 0
  omega
def inS (a b : Str) : Bool := !(Builtin.Str.occurrences b a 0 b.length 1).isEmpty
def hexD : Str := "0123456789abcdef"
def okSign (c : Nat) : Bool := inS (Txt.lower ⟨#[c]⟩) hexD || decide (c ∈ (":." : Str).cps.toList)
def qPlace (z : Str) : Int := Txt.rfind z (":" : Str) + 1
def wrongQuad (z : Str) : Bool := decide (46 ∈ z.cps.toList) && (decide (46 ∈ (cutS z none (some (qPlace z))).cps.toList) || (quadFault (tl (cutS z (some (qPlace z)) none))).isSome)
def wrongGaps (z : Str) : Bool := inS (":::" : Str) z || decide (1 < Txt.count z ("::" : Str))
def wrongEnds (z : Str) : Bool := (Txt.startswith z (":" : Str) && !Txt.startswith z ("::" : Str)) || (Txt.endswith z (":" : Str) && !Txt.endswith z ("::" : Str))
def hexGroups (z : Str) : List Str := if z = ("" : Str) then [] else Txt.split z (":" : Str)
structure P6 where
  ahead : List Str
  behind : Option (List Str)
  quad : Str
def quadOf (z : Str) : Str := if 46 ∈ z.cps.toList then cutS z (some (qPlace z)) none else ("" : Str)
def plainOf (z : Str) : Str := if quadOf z = ("" : Str) then z else cutS z none (some (qPlace z))
def partsOf (z : Str) : P6 :=
  if inS ("::" : Str) (plainOf z) = true then ⟨hexGroups (Txt.partition (plainOf z) ("::" : Str)).1, some (hexGroups (Txt.rstripChars (Txt.partition (plainOf z) ("::" : Str)).2.2 (":" : Str))), quadOf z⟩
  else ⟨hexGroups (Txt.rstripChars (plainOf z) (":" : Str)), none, quadOf z⟩
def P6.many (p : P6) : Int := p.ahead.length + (p.behind.getD []).length + 2 * (if p.quad = ("" : Str) then 0 else 1)
def P6.wrong (p : P6) : Bool := match p.behind with
  | none => !decide (V.int p.many = V.int 8)
  | some _ => decide (7 < p.many)
def OptL (H : Hp) (b : V) : Option (List Str) → Prop
  | none => b = .non
  | some bs => ∃ l2, b = .ref l2 ∧ H l2 = some (.lst (bs.map V.str))
theorem OptL.same {H H' : Hp} {b : V} {o : Option (List Str)} (h : OptL H b o) (s : Same H H') : OptL H' b o := by
  cases o with
  | none => exact h
  | some bs =>
    obtain ⟨l2, e, h2⟩ := h
    exact ⟨l2, e, s _ _ h2⟩
theorem cutS_len (z : Str) (lo hi : Option Int) : (cutS z lo hi).length ≤ z.length := by
  rw [len_tl, len_tl]
  show (((tl z).drop _).take _).length ≤ _
  rw [List.length_take, List.length_drop]; omega
theorem sizeL {n : Nat} (h : n ≤ 100000) : n ≤ sizeLine := Nat.le_trans h (by decide)
theorem par_len {S : List Nat} : ∀ (l acc a b : List Nat), par S acc l = some (a, b) → a.length ≤ acc.length + l.length ∧ b.length ≤ l.length
  | [], acc, a, b, h => by cases h
  | c :: r, acc, a, b, h => by
    unfold par at h
    split at h
    · injection h with h
      injection h with h1 h2
      rw [← h1, ← h2, List.length_drop]
      exact ⟨by omega, by omega⟩
    · have := par_len r _ a b h
      rw [List.length_append] at this
      simp only [List.length_cons, List.length_nil] at this ⊢
      omega
theorem part_len (x y : Str) (hy : tl y ≠ []) : (Txt.partition x y).1.length ≤ x.length ∧ (Txt.partition x y).2.2.length ≤ x.length := by
  rw [partition_par x y hy]
  cases h : par (tl y) [] (tl x) with
  | none => exact ⟨Nat.le_refl _, Nat.zero_le _⟩
  | some ab =>
    obtain ⟨a, b⟩ := ab
    have := par_len _ _ _ _ h
    have e1 := len_tl x
    rw [List.length_nil] at this
    refine ⟨?_, ?_⟩
    · show (⟨a.toArray⟩ : Str).length ≤ _
      rw [len_tl]; show a.length ≤ _; omega
    · show (⟨b.toArray⟩ : Str).length ≤ _
      rw [len_tl]; show b.length ≤ _; omega
theorem split_colon (z : Str) : (Txt.split z (":" : Str)).map tl = sp1 58 [] (tl z) := by
  have e : tl (":" : Str) = [58] := by decide +kernel
  rw [split_spl z (":" : Str) (by rw [e]; simp) (kind_ok (by decide +kernel)), e, sp1_spl]
theorem hexG_many (z : Str) : (hexGroups z).length ≤ z.length + 1 := by
  unfold hexGroups
  split
  · exact Nat.zero_le _
  · have := sp1_many (s := 58) (tl z) []
    rw [← split_colon, List.length_map, ← len_tl] at this
    exact this
theorem hexG_len (z : Str) : ∀ g ∈ hexGroups z, g.length ≤ z.length := by
  intro g hg
  unfold hexGroups at hg
  split at hg
  · cases hg
  · have h2 : tl g ∈ sp1 58 [] (tl z) := by rw [← split_colon]; exact List.mem_map.mpr ⟨g, hg, rfl⟩
    have := sp1_len _ _ _ h2
    rw [List.length_nil, ← len_tl, ← len_tl] at this
    omega
theorem plain_len (z : Str) : (plainOf z).length ≤ z.length := by
  unfold plainOf
  split
  · exact Nat.le_refl _
  · exact cutS_len ..
theorem parts_b (z : Str) : (partsOf z).ahead.length ≤ z.length + 1 ∧ ((partsOf z).behind.getD []).length ≤ z.length + 1 ∧ ∀ g ∈ (partsOf z).ahead ++ (partsOf z).behind.getD [], g.length ≤ z.length := by
  have pl := part_len (plainOf z) ("::" : Str) (by decide +kernel)
  have pz := plain_len z
  unfold partsOf
  split
  · have r := len_rstripChars (Txt.partition (plainOf z) ("::" : Str)).2.2 (":" : Str)
    have m1 := hexG_many (Txt.partition (plainOf z) ("::" : Str)).1
    have m2 := hexG_many (Txt.rstripChars (Txt.partition (plainOf z) ("::" : Str)).2.2 (":" : Str))
    refine ⟨by show (hexGroups _).length ≤ _; omega, by show (hexGroups _).length ≤ _; omega, fa_app (fun g hg => ?_) (fun g hg => ?_)⟩
    · have := hexG_len _ g hg
      omega
    · have := hexG_len _ g hg
      omega
  · have r := len_rstripChars (plainOf z) (":" : Str)
    have m1 := hexG_many (Txt.rstripChars (plainOf z) (":" : Str))
    refine ⟨by show (hexGroups _).length ≤ _; omega, Nat.zero_le _, fa_app (fun g hg => ?_) fa_nil⟩
    have := hexG_len _ g hg
    omega
theorem quad_len (z : Str) : (quadOf z).length ≤ z.length := by
  unfold quadOf
  split
  · exact cutS_len ..
  · exact Nat.zero_le _
theorem parts_quad (z : Str) : (partsOf z).quad = quadOf z := by
  unfold partsOf
  split <;> rfl
def g6Fault (z : Str) : Option Str :=
  if (tl z).all okSign = false then some ("digits" : Str) else if wrongQuad z = true then some ("quad" : Str) else if wrongGaps z = true then some ("gaps" : Str) else if wrongEnds z = true then some ("ends" : Str)
  else if ((partsOf z).ahead ++ (partsOf z).behind.getD []).all (fun g => decide ((g.length : Int) < 5)) = false then some ("long" : Str) else if (partsOf z).wrong = true then some ("groups" : Str) else none
def hx (c : Nat) : Nat := hexD.cps.toList.idxOf c
def hexNum (z : Str) : Nat := (tl (Txt.lower z)).foldl (fun a c => a * 16 + hx c) 0
def hexOk (z : Str) : Prop := ∀ c ∈ tl (Txt.lower z), c ∈ hexD.cps.toList
theorem hx_at : ∀ c ∈ hexD.cps.toList, Txt.index0 hexD ⟨#[c]⟩ = some (hx c) := by decide +kernel
def qMore (q : Str) : List Nat := if q = ("" : Str) then [] else [quadVal (dots (tl q)) / 65536, quadVal (dots (tl q)) % 65536]
def P6.first (p : P6) : List Nat := p.ahead.map hexNum ++ (if p.behind.isSome then [] else qMore p.quad)
def P6.last (p : P6) : List Nat := (p.behind.getD []).map hexNum ++ (if p.behind.isSome then qMore p.quad else [])
def val16 (gs : List Nat) : Nat := gs.foldl (fun a g => a * 65536 + g) 0
def P6.val (p : P6) : Nat := val16 (p.first ++ List.replicate (8 - p.first.length - p.last.length) 0 ++ p.last)
theorem P6.noq {p : P6} (h : p.quad = ("" : Str)) : p.ahead.map hexNum = p.first ∧ (p.behind.getD []).map hexNum = p.last := by
  unfold P6.first P6.last qMore
  rw [if_pos h]
  constructor <;> simp
theorem P6.q1 {p : P6} {n : Nat} (h : ¬ p.quad = ("" : Str)) (hn : n = quadVal (dots (tl p.quad))) (hb : p.behind.isNone = true) : p.first = p.ahead.map hexNum ++ [n / 65536, n % 65536] ∧ (p.behind.getD []).map hexNum = p.last := by
  obtain ⟨pa, pb, pq⟩ := p
  cases pb with
  | some bs => cases hb
  | none =>
    unfold P6.first P6.last qMore
    rw [if_neg h, ← hn]
    exact ⟨rfl, rfl⟩
theorem P6.q2 {p : P6} {n : Nat} (h : ¬ p.quad = ("" : Str)) (hn : n = quadVal (dots (tl p.quad))) (hb : p.behind.isNone = false) : p.last = (p.behind.getD []).map hexNum ++ [n / 65536, n % 65536] ∧ p.ahead.map hexNum = p.first := by
  obtain ⟨pa, pb, pq⟩ := p
  cases pb with
  | none => cases hb
  | some bs =>
    unfold P6.first P6.last qMore
    rw [if_neg h, ← hn]
    exact ⟨rfl, by simp⟩
theorem fault_quad {z : Str} (h : g6Fault z = none) (hq : quadOf z ≠ ("" : Str)) : quadFault (tl (quadOf z)) = none := by
  have h46 : 46 ∈ z.cps.toList := Classical.byContradiction fun c => hq (by unfold quadOf; rw [if_neg c])
  have e : quadOf z = cutS z (some (qPlace z)) none := by unfold quadOf; rw [if_pos h46]
  unfold g6Fault at h
  split at h
  · cases h
  split at h
  · cases h
  rename_i h2
  unfold wrongQuad at h2
  rw [decide_eq_true h46, Bool.true_and, Bool.or_eq_true] at h2
  rw [e]
  cases x : quadFault (tl (cutS z (some (qPlace z)) none)) with
  | none => rfl
  | some y => exact absurd (Or.inr (by rw [x]; rfl)) h2
def hd16 (d : Nat) : Nat := (Nat.digitChar d).toNat
theorem hexL_lt {n : Nat} (h : n < 16) : hexL n = [hd16 n] := by
  unfold hexL
  rw [Nat.toDigits_of_lt_base h]; rfl
theorem hexL_step {n : Nat} (h : 16 ≤ n) : hexL n = hexL (n / 16) ++ [hd16 (n % 16)] := by
  have hm : n % 16 < 16 := Nat.mod_lt n (by decide)
  have t : Nat.toDigits 16 (n / 16) ++ Nat.toDigits 16 (n % 16) = Nat.toDigits 16 (16 * (n / 16) + n % 16) := Nat.toDigits_append_toDigits (by decide) (by omega) hm
  rw [Nat.div_add_mod] at t
  show (Nat.toDigits 16 n).map Char.toNat = _
  rw [← t, List.map_append, Nat.toDigits_of_lt_base hm]; rfl
def hval (l : List Nat) : Nat := l.foldl (fun a c => a * 16 + hx c) 0
theorem hexL_len {n k : Nat} (hk : 1 ≤ k) (h : n < 16 ^ k) : (hexL n).length ≤ k := by
  induction k generalizing n with
  | zero => omega
  | succ k ih =>
    by_cases hn : n < 16
    · rw [hexL_lt hn]; simp
    · rw [hexL_step (by omega), List.length_append]
      rw [Nat.pow_succ] at h
      by_cases k0 : k = 0
      · subst k0; omega
      · have := ih (n := n / 16) (by omega) (by omega)
        simp; omega
theorem hexS_tl (n : Nat) : tl (hexS n) = hexL n := rfl
theorem hexS_len {n : Nat} (h : n < 65536) : (hexS n).length ≤ 4 := by
  rw [len_tl, hexS_tl]; exact hexL_len (by decide) h
theorem sum_le {α : Type} {f : α → Nat} {k : Nat} : ∀ {xs : List α}, (∀ x ∈ xs, f x ≤ k) → (xs.map f).sum ≤ xs.length * k
  | [], _ => Nat.zero_le _
  | x :: r, h => by
    have a := h x (List.mem_cons_self ..)
    have b := sum_le (xs := r) fun y hy => h y (List.mem_cons_of_mem _ hy)
    rw [List.map_cons, List.sum_cons, List.length_cons, Nat.succ_mul]; omega
theorem join_sz {z : Str} {xs : List Str} {k : Nat} (hz : z.length ≤ 2) (h : ∀ x ∈ xs, x.length ≤ k) (hk : k ≤ 100) (hn : xs.length ≤ 1000) : (xs.map fun x => x.length).sum + xs.length * z.length ≤ 16777216 := by
  have a := sum_le (f := fun x : Str => x.length) h
  have b : xs.length * k ≤ 1000 * 100 := Nat.mul_le_mul hn hk
  have c : xs.length * z.length ≤ 1000 * 2 := Nat.mul_le_mul hn hz
  omega
theorem join_len {z : Str} {xs : List Str} {k : Nat} (h : ∀ x ∈ xs, x.length ≤ k) : (Txt.join z xs).length ≤ xs.length * (k + z.length) := by
  have a := joinL_len (tl z) (xs.map tl)
  have b := sum_le (f := fun x : Str => x.length) h
  have e : ((xs.map tl).map List.length) = xs.map fun x => x.length := by rw [List.map_map]; exact List.map_congr_left fun x _ => (len_tl x).symm
  rw [e, List.length_map, ← len_tl z] at a
  rw [join_eq, len_tl, tl_join, Nat.mul_add]
  omega
theorem Str_len_app (a b : Str) : (a ++ b).length = a.length + b.length := by rw [len_tl, tl_append, List.length_append, ← len_tl, ← len_tl]
theorem colon1 : (":" : Str).length ≤ 2 := by decide +kernel
def gN (n : Int) : List Nat := [112, 96, 80, 64, 48, 32, 16, 0].map fun s : Nat => (n / 2 ^ s % 65536).toNat
def lrGo : Nat → Nat → Nat → Nat → List Bool → Nat × Nat
  | _, best, many, _, [] => (best, many)
  | i, best, many, begin_, b :: r => if b = false then lrGo (i + 1) best many (i + 1) r else if many < i + 1 - begin_ then lrGo (i + 1) begin_ (i + 1 - begin_) begin_ r else lrGo (i + 1) best many begin_ r
def zs (gs : List Nat) : List Bool := gs.map fun g => decide (g = 0)
def lr (gs : List Nat) : Nat × Nat := lrGo 0 0 0 0 (zs gs)
def g6T (gs : List Nat) (b m : Nat) : Str := if m < 2 then Txt.join (":" : Str) (gs.map hexS) else Txt.join (":" : Str) ((gs.take b).map hexS) ++ ("::" : Str) ++ Txt.join (":" : Str) ((gs.drop (b + m)).map hexS)
def g6S (n : Int) : Str := g6T (gN n) (lr (gN n)).1 (lr (gN n)).2
theorem gN_range (n : Int) : gN n = (List.range 8).map fun i : Nat => (n / 2 ^ (112 - 16 * i) % 65536).toNat := rfl
theorem gN_len (n : Int) : (gN n).length = 8 := rfl
theorem gN_b (n : Int) : ∀ g ∈ gN n, g < 65536 := by
  intro g hg
  obtain ⟨s, _, rfl⟩ := List.mem_map.mp hg
  omega
abbrev J (ss : List (List Nat)) : List Nat := joinL [58] ss
theorem J_cons2 (s t : List Nat) (r : List (List Nat)) : J (s :: t :: r) = s ++ 58 :: J (t :: r) := rfl
def Fr (ss : List (List Nat)) : Prop := ∀ p ∈ ss, 58 ∉ p
theorem sp1_of {ss : List (List Nat)} (h : ss ≠ []) (hf : Fr ss) : sp1 58 [] (J ss) = ss := by
  rw [← sp1_spl]; exact spl_join h hf
def gap : List (List Nat) → Option (List (List Nat) × List (List Nat))
  | s :: t :: r => if t = [] ∧ r ≠ [] then some ([s], r) else (gap (t :: r)).map fun ab => (s :: ab.1, ab.2)
  | _ => none
theorem gap_ne : ∀ {ss : List (List Nat)} {ab}, gap ss = some ab → ab.1 ≠ [] ∧ ab.2 ≠ []
  | [], _, h => by cases h
  | [_], _, h => by cases h
  | s :: t :: r, ab, h => by
    unfold gap at h
    split at h
    · rename_i c
      cases h
      exact ⟨by simp, c.2⟩
    · obtain ⟨x, hx, rfl⟩ := Option.map_eq_some_iff.mp h
      exact ⟨by simp, (gap_ne hx).2⟩
theorem par_skip {S s acc l : List Nat} {c : Nat} (h : c ∉ s) : par (c :: S) acc (s ++ l) = par (c :: S) (acc ++ s) l := by
  induction s generalizing acc with
  | nil => rw [List.append_nil]; rfl
  | cons x s ih =>
    rw [List.cons_append, par_miss (pre_of_head _ _ (fun e => h (by rw [e]; exact List.mem_cons_self ..))), ih (fun hm => h (List.mem_cons_of_mem _ hm)), List.append_assoc]; rfl
theorem pre2 {l : List Nat} : pre [58, 58] (58 :: l) = pre [58] l := by
  unfold pre
  cases l with
  | nil => rfl
  | cons c r => simp
theorem pre3 {l : List Nat} : pre [58, 58, 58] (58 :: l) = pre [58, 58] l := by
  unfold pre
  cases l with
  | nil => rfl
  | cons c r => simp
theorem pre1_cons {c : Nat} {l : List Nat} : pre [58] (c :: l) = decide (c = 58) := by
  unfold pre
  by_cases h : c = 58 <;> simp [h]
def sC : List (List Nat) → Bool
  | [] :: _ :: _ => true
  | _ => false
theorem pre_J {ss : List (List Nat)} (hf : Fr ss) : pre [58] (J ss) = sC ss := by
  match ss, hf with
  | [], _ => rfl
  | [[]], _ => rfl
  | [c :: s], hf =>
    show pre [58] (c :: s) = false
    rw [pre1_cons]
    exact decide_eq_false fun e => hf (c :: s) (by simp) (by rw [e]; exact List.mem_cons_self ..)
  | [] :: t :: r, _ => show pre [58] (58 :: J (t :: r)) = true; rw [pre1_cons]; rfl
  | (c :: s) :: t :: r, hf =>
    show pre [58] (c :: (s ++ 58 :: J (t :: r))) = false
    rw [pre1_cons]
    exact decide_eq_false fun e => hf (c :: s) (by simp) (by rw [e]; exact List.mem_cons_self ..)
theorem sC_iff {t : List Nat} {r : List (List Nat)} : sC (t :: r) = true ↔ t = [] ∧ r ≠ [] := by
  match t, r with
  | [], [] => simp [sC]
  | [], _ :: _ => simp [sC]
  | _ :: _, [] => simp [sC]
  | _ :: _, _ :: _ => simp [sC]
theorem Fr.tail {s : List Nat} {r : List (List Nat)} (h : Fr (s :: r)) : Fr r := fun p hp => h p (List.mem_cons_of_mem _ hp)
theorem Fr.head {s : List Nat} {r : List (List Nat)} (h : Fr (s :: r)) : 58 ∉ s := h s (List.mem_cons_self ..)
theorem par_gap : ∀ {ss : List (List Nat)} (acc : List Nat), Fr ss → par [58, 58] acc (J ss) = (gap ss).map fun ab => (acc ++ J ab.1, J ab.2)
  | [], acc, _ => rfl
  | [s], acc, hf => by
    show par [58, 58] acc s = none
    exact par_none1 hf.head
  | s :: t :: r, acc, hf => by
    rw [J_cons2, par_skip hf.head]
    have e1 : pre [58, 58] (58 :: J (t :: r)) = sC (t :: r) := by rw [pre2, pre_J hf.tail]
    unfold gap
    by_cases h : t = [] ∧ r ≠ []
    · rw [if_pos h, par_hit (by rw [e1]; exact sC_iff.mpr h)]
      obtain ⟨rfl, hr⟩ := h
      match r, hr with
      | u :: r, _ => rfl
    · rw [if_neg h, par_miss (by rw [e1]; cases e : sC (t :: r) with | false => rfl | true => exact absurd (sC_iff.mp e) h), par_gap _ hf.tail]
      cases hg : gap (t :: r) with
      | none => rfl
      | some ab =>
        obtain ⟨a1, a2⟩ := gap_ne hg
        show some (_, _) = some (_, _)
        have e2 : J (s :: ab.1) = s ++ 58 :: J ab.1 := by
          match h1 : ab.1, a1 with
          | x :: y, _ => rfl
        rw [e2]; simp
def gap3 : List (List Nat) → Bool
  | s :: t :: u :: r => (decide (t = []) && sC (u :: r)) || gap3 (t :: u :: r)
  | _ => false
theorem par_gap3 : ∀ {ss : List (List Nat)} (acc : List Nat), Fr ss → (par [58, 58, 58] acc (J ss)).isSome = gap3 ss
  | [], acc, _ => rfl
  | [s], acc, hf => by
    have e : par [58, 58, 58] acc (J [s]) = none := par_none1 (p := s) hf.head
    rw [e]; rfl
  | [s, t], acc, hf => by
    have e : J [s, t] = s ++ 58 :: t := rfl
    rw [e, par_skip hf.head]
    have ht : 58 ∉ t := hf.tail.head
    have e1 : pre [58, 58, 58] (58 :: t) = false := by
      rw [pre3]
      cases t with
      | nil => rfl
      | cons c r => exact pre_of_head _ _ fun e => ht (by rw [e]; exact List.mem_cons_self ..)
    rw [par_miss e1, par_none1 ht]; rfl
  | s :: t :: u :: r, acc, hf => by
    rw [J_cons2, par_skip hf.head]
    unfold gap3
    have e1 : pre [58, 58, 58] (58 :: J (t :: u :: r)) = (decide (t = []) && sC (u :: r)) := by
      rw [pre3]
      cases t with
      | nil =>
        have : J ([] :: u :: r) = 58 :: J (u :: r) := rfl
        rw [this, pre2, pre_J hf.tail.tail]; simp
      | cons c t =>
        have : J ((c :: t) :: u :: r) = c :: (t ++ 58 :: J (u :: r)) := rfl
        rw [this, pre_of_head _ _ (fun e => hf.tail.head (by rw [e]; exact List.mem_cons_self ..))]; simp
    cases hp : decide (t = []) && sC (u :: r) with
    | true => rw [par_hit (by rw [e1, hp])]; rfl
    | false => rw [par_miss (by rw [e1, hp]), par_gap3 _ hf.tail]; rfl
theorem gap3_next {x : List Nat} {r : List (List Nat)} (h : gap3 (x :: r) = true) : sC r = true ∨ (gap r).isSome = true := by
  match r, h with
  | t :: u :: r, h =>
    unfold gap3 at h
    rw [Bool.or_eq_true, Bool.and_eq_true] at h
    rcases h with ⟨h1, _⟩ | h
    · rw [of_decide_eq_true h1]; exact .inl rfl
    · rcases gap3_next h with h | h
      · refine .inr ?_
        unfold gap
        rw [if_pos (sC_iff.mp h |> fun z => ⟨z.1, z.2⟩)]; rfl
      · refine .inr ?_
        unfold gap
        split
        · rfl
        · rw [Option.isSome_map]; exact h
def gaps2 (ss : List (List Nat)) : Bool := match gap ss with
  | none => false
  | some ab => sC ab.2 || (gap ab.2).isSome
theorem gaps_iff : ∀ {ss : List (List Nat)}, (gap3 ss = true ∨ ∃ ab, gap ss = some ab ∧ (gap ab.2).isSome = true) ↔ gaps2 ss = true
  | [] => by simp [gap3, gaps2, gap]
  | [s] => by simp [gap3, gaps2, gap]
  | [s, t] => by
    have : ¬ (t = [] ∧ ([] : List (List Nat)) ≠ []) := by simp
    simp [gap3, gaps2, gap]
  | s :: t :: u :: r => by
    unfold gaps2
    by_cases h : t = [] ∧ (u :: r) ≠ []
    · have e : gap (s :: t :: u :: r) = some ([s], u :: r) := by unfold gap; rw [if_pos h]
      rw [e]
      unfold gap3
      rw [decide_eq_true h.1, Bool.true_and]
      show ((sC (u :: r) || gap3 (t :: u :: r)) = true ∨ _) ↔ (sC (u :: r) || (gap (u :: r)).isSome) = true
      rw [Bool.or_eq_true, Bool.or_eq_true]
      constructor
      · rintro ((h1 | h1) | ⟨ab, h1, h2⟩)
        · exact .inl h1
        · exact gap3_next h1
        · cases h1; exact .inr h2
      · rintro (h1 | h1)
        · exact .inl (.inl h1)
        · exact .inr ⟨_, rfl, h1⟩
    · have e : gap (s :: t :: u :: r) = (gap (t :: u :: r)).map fun ab => (s :: ab.1, ab.2) := by rw [gap, if_neg h]
      have ih := gaps_iff (ss := t :: u :: r)
      unfold gap3
      rw [decide_eq_false (fun z => h ⟨z, by simp⟩), Bool.false_and, Bool.false_or, e]
      unfold gaps2 at ih
      cases hg : gap (t :: u :: r) with
      | none =>
        rw [hg] at ih
        simp only [Option.map_none]
        constructor
        · rintro (h1 | ⟨_, h1, _⟩)
          · exact ih.mp (.inl h1)
          · cases h1
        · intro h1; cases h1
      | some ab =>
        rw [hg] at ih
        simp only [Option.map_some]
        constructor
        · rintro (h1 | ⟨_, h1, h2⟩)
          · exact ih.mp (.inl h1)
          · cases h1; exact ih.mp (.inr ⟨_, rfl, h2⟩)
        · intro h1
          rcases ih.mpr h1 with h1 | ⟨_, h1, h2⟩
          · exact .inl h1
          · cases h1; exact .inr ⟨_, rfl, h2⟩
theorem inS_par (y z : Str) (hy : tl y ≠ []) : inS y z = (par (tl y) [] (tl z)).isSome := by
  unfold inS
  rcases StrLaws.occ_head z y 1 (Nat.le_refl 1) with ⟨h0, hn⟩ | ⟨i, r, h0, hi, hn⟩
  · rw [h0, par_none fun i _ => no_at hy (hn i)]; rfl
  · have hb : i + y.length ≤ z.length := hi.1
    have hx := len_tl z
    have run := par_run (tl y) (tl z) i 0 [] (by omega) (fun k _ k2 => no_at hy (hn k (by omega)))
    rw [List.drop_zero, Nat.zero_add, List.nil_append, par_at hy ((at_iff hy i).mp hi)] at run
    rw [h0, run]; rfl
theorem partsFrom_len (x : Str) (w : Nat) : ∀ (cuts : List Nat) (a : Nat), (StrLaws.partsFrom x w a cuts).length = cuts.length + 1
  | [], _ => rfl
  | c :: r, a => by
    show (StrLaws.partsFrom x w (c + w) r).length + 1 = _
    rw [partsFrom_len x w r]; rfl
theorem count_spl (x y : Str) (hy : tl y ≠ []) : Txt.count x y = ((spl (tl y) 0 [] (tl x)).length : Int) - 1 := by
  obtain ⟨f, g, hn⟩ := StrLaws.occ_tight x y (len1 hy)
  have key := parts_spl hy _ 0 f (Nat.zero_le _) g hn
  rw [List.drop_zero] at key
  rw [← key, List.length_map, partsFrom_len]
  unfold Txt.count
  omega
theorem spl_par {S : List Nat} (hS : S ≠ []) : ∀ (l acc : List Nat), spl S 0 acc l = (match par S acc l with | none => [acc ++ l] | some (a, b) => a :: spl S 0 [] b)
  | [], acc => by rw [spl_nil]; show _ = [acc ++ []]; rw [List.append_nil]
  | c :: r, acc => by
    cases h : pre S (c :: r) with
    | true => 
      rw [spl_hit h, par_hit h, spl_pass]
      match S, hS with
      | s :: S, _ => rfl
    | false =>
      rw [spl_miss h, par_miss h, spl_par hS r]
      cases par S (acc ++ [c]) r with
      | none => simp
      | some ab => rfl
theorem spl_len1 {S : List Nat} (hS : S ≠ []) (l acc : List Nat) : (1 < (spl S 0 acc l).length) = ((par S acc l).isSome = true) := by
  rw [spl_par hS]
  cases par S acc l with
  | none => simp
  | some ab =>
    obtain ⟨a, b⟩ := ab
    have : 1 ≤ (spl S 0 [] b).length := by
      rw [spl_par hS]
      cases par S [] b with
      | none => simp
      | some ab => simp
    simp only [List.length_cons, Option.isSome_some, eq_self_iff_true, eq_iff_iff, iff_true]
    omega
theorem tl_colon : tl (":" : Str) = [58] := by decide +kernel
theorem tl_colon2 : tl ("::" : Str) = [58, 58] := by decide +kernel
theorem tl_colon3 : tl (":::" : Str) = [58, 58, 58] := by decide +kernel
theorem gaps_sh {z : Str} {ss : List (List Nat)} (hz : tl z = J ss) (hf : Fr ss) : wrongGaps z = gaps2 ss := by
  unfold wrongGaps
  rw [inS_par _ _ (by rw [tl_colon3]; simp), tl_colon3, hz, par_gap3 _ hf, count_spl _ _ (by rw [tl_colon2]; simp), tl_colon2, hz]
  have e : (1 < ((spl [58, 58] 0 [] (J ss)).length : Int) - 1) ↔ ∃ ab, gap ss = some ab ∧ (gap ab.2).isSome = true := by
    rw [spl_par (by simp), par_gap _ hf]
    cases hg : gap ss with
    | none => simp
    | some ab =>
      obtain ⟨a, b⟩ := ab
      have hfb : Fr b := by
        have : ∀ {ss : List (List Nat)} {ab}, gap ss = some ab → ∀ p ∈ ab.2, p ∈ ss := by
          intro ss
          induction ss with
          | nil => intro ab h; cases h
          | cons s r ih =>
            intro ab h p hp
            match r, h with
            | t :: r, h =>
              unfold gap at h
              split at h
              · cases h; exact List.mem_cons_of_mem _ (List.mem_cons_of_mem _ hp)
              · obtain ⟨x, hx, rfl⟩ := Option.map_eq_some_iff.mp h
                exact List.mem_cons_of_mem _ (ih hx p hp)
        exact fun p hp => hf p (this hg p hp)
      have s1 := spl_len1 (S := [58, 58]) (by simp) (J b) []
      rw [par_gap _ hfb, Option.isSome_map] at s1
      show (1 < (((spl [58, 58] 0 [] (J b)).length + 1 : Nat) : Int) - 1) ↔ _
      constructor
      · intro h
        exact ⟨_, rfl, by rw [← s1]; omega⟩
      · rintro ⟨_, h, h2⟩
        cases h
        rw [← s1] at h2
        omega
  rw [Bool.eq_iff_iff, Bool.or_eq_true, decide_eq_true_eq, e]
  exact gaps_iff
theorem starts_pre (x y : Str) (hy : tl y ≠ []) : Txt.startswith x y = pre (tl y) (tl x) := by
  have h := at_iff (x := x) hy 0
  rw [List.drop_zero] at h
  unfold Txt.startswith
  rw [Bool.eq_iff_iff, Bool.and_eq_true, decide_eq_true_eq]
  exact h
theorem ends_pre (x y : Str) (hy : tl y ≠ []) : Txt.endswith x y = pre (tl y).reverse (tl x).reverse := by
  have hx := len_tl x
  have hl := len_tl y
  unfold Txt.endswith
  rw [Bool.eq_iff_iff, Bool.and_eq_true, decide_eq_true_eq, StrLaws.subAt_eq]
  show (_ ∧ (((tl x).drop (x.length - y.length)).take y.length == tl y) = true) ↔ (((tl x).reverse.take (tl y).reverse.length) == (tl y).reverse) = true
  rw [beq_iff_eq, beq_iff_eq, List.length_reverse, List.take_reverse, List.reverse_inj, hx, hl]
  constructor
  · rintro ⟨h1, h2⟩
    have h3 := h2
    rw [List.take_of_length_le (by rw [List.length_drop]; omega)] at h3
    exact h3
  · intro h
    have := congrArg List.length h
    rw [List.length_drop] at this
    refine ⟨by omega, ?_⟩
    rw [h]; exact List.take_of_length_le (Nat.le_refl _)
theorem J_snoc : ∀ (i : List (List Nat)) (t : List Nat), J (i ++ [t]) = J (i ++ [[]]) ++ t
  | [], t => rfl
  | [s], t => by show s ++ 58 :: t = (s ++ [58]) ++ t; simp
  | s :: u :: i, t => by
    show s ++ 58 :: J (u :: i ++ [t]) = (s ++ 58 :: J (u :: i ++ [[]])) ++ t
    rw [J_snoc (u :: i) t]; simp
theorem J_end : ∀ {i : List (List Nat)}, i ≠ [] → J (i ++ [[]]) = J i ++ [58]
  | [], h => absurd rfl h
  | [s], _ => rfl
  | s :: u :: i, _ => by
    show s ++ 58 :: J (u :: i ++ [[]]) = (s ++ 58 :: J (u :: i)) ++ [58]
    rw [J_end (i := u :: i) (by simp)]; simp
theorem place_eq {z : Str} {P t : List Nat} (hz : tl z = P ++ t) (ht : 58 ∉ t) (hP : P = [] ∨ ∃ P', P = P' ++ [58]) : qPlace z = P.length := by
  have hat : ∀ k, StrLaws.At z (":" : Str) z.length k ↔ (tl z)[k]? = some 58 := by
    intro k
    rw [at_iff (by rw [tl_colon]; simp), tl_colon]
    cases hd : (tl z).drop k with
    | nil =>
      have := List.drop_eq_nil_iff.mp hd
      rw [List.getElem?_eq_none this]
      simp [pre]
    | cons c r =>
      have : (tl z)[k]? = some c := by
        have := congrArg (fun l => l[0]?) hd
        simpa using this
      rw [this, pre1_cons]
      simp
  unfold qPlace Txt.rfind
  rcases StrLaws.last_spec z (":" : Str) with ⟨h0, hn⟩ | ⟨i, h0, hi, hn⟩
  · rw [h0]
    rcases hP with rfl | ⟨P', rfl⟩
    · rfl
    · refine absurd ((hat P'.length).mpr ?_) (hn _)
      rw [hz]; simp
  · rw [h0]
    have h1 := (hat i).mp hi
    have hlt : i < P.length := by
      refine Classical.byContradiction fun c => ht ?_
      rw [hz, List.getElem?_append_right (by omega)] at h1
      exact List.mem_of_getElem? h1
    rcases hP with rfl | ⟨P', rfl⟩
    · simp at hlt
    · have : ¬ i < P'.length := fun c => hn P'.length c ((hat _).mpr (by rw [hz]; simp))
      rw [List.length_append] at hlt ⊢
      simp at hlt ⊢
      omega
theorem cut_hi {z : Str} {P t : List Nat} (hz : tl z = P ++ t) : cutS z (some (P.length : Int)) none = ⟨t.toArray⟩ := by
  refine ext_tl ?_
  show ((tl z).drop (HT.sIx (tl z).length 0 (some (P.length : Int)))).take (HT.sIx (tl z).length (tl z).length none - HT.sIx (tl z).length 0 (some (P.length : Int))) = t
  rw [HT.sIx_nat, HT.sIx_none, hz, Nat.min_eq_left (by rw [List.length_append]; omega), List.drop_left]
  exact List.take_of_length_le (by rw [List.length_append]; omega)
theorem cut_lo {z : Str} {P t : List Nat} (hz : tl z = P ++ t) : cutS z none (some (P.length : Int)) = ⟨P.toArray⟩ := by
  refine ext_tl ?_
  show ((tl z).drop (HT.sIx (tl z).length 0 none)).take (HT.sIx (tl z).length (tl z).length (some (P.length : Int)) - HT.sIx (tl z).length 0 none) = P
  rw [HT.sIx_nat, HT.sIx_none, hz, Nat.min_eq_left (by rw [List.length_append]; omega), List.drop_zero, Nat.sub_zero, List.take_left]
theorem rstrip_tl (z : Str) : tl (Txt.rstripChars z (":" : Str)) = ((tl z).reverse.dropWhile (fun c => decide (c = 58))).reverse := by
  unfold Txt.rstripChars
  rw [PyProof.Rows.stripBy_eq, tl_strSub]
  have e : ∀ c, ((":" : Str).cps.contains c) = decide (c = 58) := by
    intro c
    have : (":" : Str).cps = #[58] := by decide +kernel
    rw [this]
    by_cases h : c = 58 <;> simp [h]
  have eg : (fun c => (":" : Str).cps.contains c) = fun c => decide (c = 58) := funext e
  show ((tl z).drop 0).take (z.length - (((tl z).drop 0).reverse.takeWhile _).length - 0) = _
  rw [List.drop_zero, Nat.sub_zero, len_tl z]
  have eg2 : ((":" : Str).cps.contains) = fun c => decide (c = 58) := eg
  rw [eg2]
  have key : ∀ l : List Nat, l.reverse.take (l.length - (l.takeWhile fun c => decide (c = 58)).length) = (l.dropWhile fun c => decide (c = 58)).reverse := by
    intro l
    have h1 : l = (l.takeWhile fun c => decide (c = 58)) ++ (l.dropWhile fun c => decide (c = 58)) := (List.takeWhile_append_dropWhile ..).symm
    conv => lhs; rw [h1]
    rw [List.reverse_append, List.length_append, h1.symm]
    rw [Nat.add_sub_cancel_left]
    rw [List.take_append_of_le_length (by rw [List.length_reverse]; exact Nat.le_refl _)]
    exact List.take_of_length_le (by rw [List.length_reverse]; exact Nat.le_refl _)
  have k := key (tl z).reverse
  rw [List.reverse_reverse, List.length_reverse] at k
  exact k
abbrev tS (l : List Nat) : Str := ⟨l.toArray⟩
theorem tl_tS (l : List Nat) : tl (tS l) = l := rfl
theorem tS_tl (z : Str) : tS (tl z) = z := mk_tl z
def sC2 : List (List Nat) → Bool
  | [] :: r => sC r
  | _ => false
theorem pre_J2 {ss : List (List Nat)} (hf : Fr ss) : pre [58, 58] (J ss) = sC2 ss := by
  match ss, hf with
  | [], _ => rfl
  | [[]], _ => rfl
  | [c :: s], hf => exact pre_of_head _ _ fun e => hf (c :: s) (by simp) (by rw [e]; exact List.mem_cons_self ..)
  | [] :: t :: r, hf => show pre [58, 58] (58 :: J (t :: r)) = sC (t :: r); rw [pre2, pre_J hf.tail]
  | (c :: s) :: t :: r, hf => exact pre_of_head _ _ fun e => hf (c :: s) (by simp) (by rw [e]; exact List.mem_cons_self ..)
theorem J_app {X Y : List (List Nat)} (hx : X ≠ []) (hy : Y ≠ []) : J (X ++ Y) = J X ++ 58 :: J Y := by
  match X, hx, Y, hy with
  | [s], _, t :: r, _ => rfl
  | s :: u :: X, _, t :: r, h =>
    show s ++ 58 :: J (u :: X ++ t :: r) = (s ++ 58 :: J (u :: X)) ++ 58 :: J (t :: r)
    rw [J_app (X := u :: X) (by simp) h]; simp
theorem J_rev : ∀ ss : List (List Nat), (J ss).reverse = J (ss.reverse.map List.reverse)
  | [] => rfl
  | [s] => rfl
  | s :: t :: r => by
    have ih := J_rev (t :: r)
    rw [J_cons2, List.reverse_append, List.reverse_cons, ih, List.reverse_cons (a := s), List.map_append, J_app (by simp) (by simp)]
    simp; rfl
theorem sC_map {ss : List (List Nat)} : sC (ss.map List.reverse) = sC ss := by
  match ss with
  | [] => rfl
  | [[]] => rfl
  | [c :: s] =>
    cases h : (c :: s).reverse with
    | nil => simp at h
    | cons x y => show sC [(c :: s).reverse] = _; rw [h]; rfl
  | [] :: t :: r => rfl
  | (c :: s) :: t :: r =>
    show sC ((c :: s).reverse :: t.reverse :: _) = false
    cases h : (c :: s).reverse with
    | nil => simp at h
    | cons x y => rfl
theorem sC2_map {ss : List (List Nat)} : sC2 (ss.map List.reverse) = sC2 ss := by
  match ss with
  | [] => rfl
  | [] :: r => show sC (r.map List.reverse) = sC r; exact sC_map
  | (c :: s) :: r =>
    show sC2 ((c :: s).reverse :: _) = false
    cases h : (c :: s).reverse with
    | nil => simp at h
    | cons x y => rfl
theorem Fr.rev {ss : List (List Nat)} (h : Fr ss) : Fr (ss.reverse.map List.reverse) := fun p hp => by
  obtain ⟨q, hq, rfl⟩ := List.mem_map.mp hp
  intro hm
  exact h q (List.mem_reverse.mp hq) (List.mem_reverse.mp hm)
theorem ends_sh {z : Str} {ss : List (List Nat)} (hz : tl z = J ss) (hf : Fr ss) : wrongEnds z = ((sC ss && !sC2 ss) || (sC ss.reverse && !sC2 ss.reverse)) := by
  unfold wrongEnds
  rw [starts_pre _ _ (by rw [tl_colon]; simp), starts_pre _ _ (by rw [tl_colon2]; simp), ends_pre _ _ (by rw [tl_colon]; simp), ends_pre _ _ (by rw [tl_colon2]; simp), tl_colon, tl_colon2, hz]
  show (pre [58] (J ss) && !pre [58, 58] (J ss) || pre [58] (J ss).reverse && !pre [58, 58] (J ss).reverse) = _
  rw [J_rev, pre_J hf, pre_J2 hf, pre_J hf.rev, pre_J2 hf.rev, sC_map, sC2_map]
def rs (b : List (List Nat)) : List (List Nat) := (b.reverse.dropWhile fun s => decide (s = [])).reverse
theorem J_drop : ∀ {c : List (List Nat)}, Fr c → (J c).dropWhile (fun x => decide (x = 58)) = J (c.dropWhile fun s => decide (s = []))
  | [], _ => rfl
  | [[]], _ => rfl
  | [x :: s], hf => by
    have hx : ¬ x = 58 := fun e => hf.head (by rw [e]; exact List.mem_cons_self ..)
    show (x :: s).dropWhile _ = J ([x :: s].dropWhile _)
    rw [List.dropWhile_cons, if_neg (by simp [hx])]
    simp; rfl
  | [] :: t :: r, hf => by
    show (58 :: J (t :: r)).dropWhile _ = J (([] :: t :: r).dropWhile _)
    rw [List.dropWhile_cons, if_pos (by simp), List.dropWhile_cons, if_pos (by simp), J_drop hf.tail]
  | (x :: s) :: t :: r, hf => by
    have hx : ¬ x = 58 := fun e => hf.head (by rw [e]; exact List.mem_cons_self ..)
    show (x :: (s ++ 58 :: J (t :: r))).dropWhile _ = J (((x :: s) :: t :: r).dropWhile _)
    rw [List.dropWhile_cons, if_neg (by simp [hx]), List.dropWhile_cons, if_neg (by simp)]; rfl
theorem drop_map (c : List (List Nat)) : (c.map List.reverse).dropWhile (fun s => decide (s = [])) = (c.dropWhile fun s => decide (s = [])).map List.reverse := by
  induction c with
  | nil => rfl
  | cons s c ih =>
    rw [List.map_cons, List.dropWhile_cons, List.dropWhile_cons, ih]
    by_cases h : s = []
    · rw [if_pos (by simp [h]), if_pos (by simp [h])]
    · rw [if_neg (by simp [h]), if_neg (by simp [h])]; rfl
theorem rstrip_J {b : List (List Nat)} (hf : Fr b) : Txt.rstripChars (tS (J b)) (":" : Str) = tS (J (rs b)) := by
  refine ext_tl ?_
  rw [rstrip_tl]
  show ((J b).reverse.dropWhile _).reverse = J (rs b)
  rw [J_rev, J_drop hf.rev, drop_map, J_rev]
  congr 1
  unfold rs
  rw [← List.map_reverse, List.map_map]
  have er : (List.reverse ∘ List.reverse : List Nat → List Nat) = id := funext List.reverse_reverse
  rw [er, List.map_id]
theorem hexG_sh {c : List (List Nat)} (hf : Fr c) : hexGroups (tS (J c)) = if J c = [] then [] else c.map tS := by
  unfold hexGroups
  have e0 : (tS (J c) = ("" : Str)) ↔ J c = [] := ⟨fun h => by have := congrArg tl h; exact this, fun h => by rw [h]; rfl⟩
  by_cases h : J c = []
  · rw [if_pos h, if_pos (e0.mpr h)]
  · rw [if_neg h, if_neg (fun z => h (e0.mp z))]
    refine map_tl_inj ?_
    rw [split_colon, tl_tS, sp1_of (fun e => h (by rw [e]; rfl)) hf, List.map_map]
    show c = c.map id
    simp
theorem hexG_good {A : List (List Nat)} (hf : Fr A) (hn : ∀ g ∈ A, g ≠ []) : hexGroups (tS (J A)) = A.map tS := by
  rw [hexG_sh hf]
  split
  · rename_i h
    match A, h, hn with
    | [], _, _ => rfl
    | [s], h, hn => exact absurd h (hn s (by simp))
    | s :: t :: r, h, _ => rw [J_cons2] at h; simp at h
  · rfl
theorem rs_good {B : List (List Nat)} (hn : ∀ g ∈ B, g ≠ []) : rs B = B := by
  unfold rs
  have e : B.reverse.dropWhile (fun s => decide (s = [])) = B.reverse := by
    cases h : B.reverse with
    | nil => rfl
    | cons x y =>
      rw [List.dropWhile_cons, if_neg]
      have := hn x (List.mem_reverse.mp (by rw [h]; exact List.mem_cons_self ..))
      simp [this]
  rw [e, List.reverse_reverse]
theorem rs_end {B : List (List Nat)} (hn : ∀ g ∈ B, g ≠ []) : rs (B ++ [[]]) = B := by
  have := rs_good hn
  unfold rs at this ⊢
  rw [List.reverse_append]
  show (([] :: B.reverse).dropWhile _).reverse = B
  rw [List.dropWhile_cons, if_pos (by simp)]
  exact this
theorem gap_none : ∀ {A : List (List Nat)} {t : List Nat}, (∀ g ∈ A, g ≠ []) → gap (A ++ [t]) = none
  | [], _, _ => rfl
  | [s], t, _ => by
    show gap [s, t] = none
    unfold gap
    rw [if_neg (by simp)]; rfl
  | s :: u :: A, t, hn => by
    show gap (s :: u :: (A ++ [t])) = none
    unfold gap
    rw [if_neg (fun z => hn u (by simp) z.1)]
    have := gap_none (A := u :: A) (t := t) fun g hg => hn g (List.mem_cons_of_mem _ hg)
    have e : gap (u :: (A ++ [t])) = none := this
    rw [e]; rfl
theorem gap_good {A : List (List Nat)} (hn : ∀ g ∈ A, g ≠ []) : gap A = none := by
  rcases List.eq_nil_or_concat A with rfl | ⟨X, t, rfl⟩
  · rfl
  · rw [List.concat_eq_append] at *
    exact gap_none fun g hg => hn g (List.mem_append_left _ hg)
def e1 (A : List (List Nat)) : List (List Nat) := if A = [] then [[]] else A
theorem J_e1 (A : List (List Nat)) : J (e1 A) = J A := by
  unfold e1
  split
  · rename_i h; rw [h]; rfl
  · rfl
theorem e1_ne (A : List (List Nat)) : e1 A ≠ [] := by
  unfold e1
  split
  · simp
  · assumption
theorem gap_mid {A B : List (List Nat)} (hB : B ≠ []) (hn : ∀ g ∈ A, g ≠ []) : gap (e1 A ++ [] :: B) = some (e1 A, B) := by
  have key : ∀ {X : List (List Nat)} {s : List Nat}, (∀ g ∈ X, g ≠ []) → gap (s :: X ++ [] :: B) = some (s :: X, B) := by
    intro X
    induction X with
    | nil =>
      intro s _
      show gap (s :: [] :: B) = _
      unfold gap
      rw [if_pos ⟨rfl, hB⟩]
    | cons u X ih =>
      intro s h
      show gap (s :: u :: (X ++ [] :: B)) = _
      unfold gap
      rw [if_neg (fun z => h u (by simp) z.1)]
      have e : gap (u :: (X ++ [] :: B)) = some (u :: X, B) := ih fun g hg => h g (List.mem_cons_of_mem _ hg)
      rw [e]; rfl
  unfold e1
  split
  · exact key (X := []) (by simp)
  · cases A with
    | nil => rename_i h; exact absurd rfl h
    | cons s X => exact key fun g hg => hn g (List.mem_cons_of_mem _ hg)
def hexU : List Nat := [48, 49, 50, 51, 52, 53, 54, 55, 56, 57, 97, 98, 99, 100, 101, 102, 65, 66, 67, 68, 69, 70]
structure HG (g : List Nat) : Prop where
  ne : g ≠ []
  len : g.length ≤ 4
  hex : ∀ c ∈ g, c ∈ hexU
theorem hexU_ok : ∀ c ∈ hexU, okSign c = true ∧ lo1 c ∈ hexD.cps.toList ∧ c < 128 ∧ c ≠ 58 ∧ c ≠ 46 := by decide +kernel
theorem ok58 : okSign 58 = true := by decide +kernel
theorem ok46 : okSign 46 = true := by decide +kernel
theorem dg_ok : ∀ c, 48 ≤ c → c ≤ 57 → c ∈ hexU := by
  intro c h1 h2
  have : c ∈ [48, 49, 50, 51, 52, 53, 54, 55, 56, 57] := by simp; omega
  unfold hexU
  simp at this ⊢
  omega
theorem HG.free {g : List Nat} (h : HG g) : 58 ∉ g := fun hm => (hexU_ok _ (h.hex _ hm)).2.2.2.1 rfl
theorem HG.nodot {g : List Nat} (h : HG g) : 46 ∉ g := fun hm => (hexU_ok _ (h.hex _ hm)).2.2.2.2 rfl
theorem HG.ok {g : List Nat} (h : HG g) : ∀ c ∈ g, okSign c = true := fun c hc => (hexU_ok _ (h.hex _ hc)).1
theorem HG.low {g : List Nat} (h : HG g) : tl (Txt.lower (tS g)) = g.map lo1 := by
  have e : Txt.lower (tS g) = ⟨(tS g).cps.map lo1⟩ := lower_ascii fun c hc => (hexU_ok _ (h.hex _ (by simpa using hc))).2.2.1
  rw [e]
  show (((g.toArray).map lo1)).toList = _
  simp
theorem HG.hexOk {g : List Nat} (h : HG g) : An.hexOk (tS g) := fun c hc => by
  rw [h.low] at hc
  obtain ⟨d, hd, rfl⟩ := List.mem_map.mp hc
  exact (hexU_ok _ (h.hex _ hd)).2.1
theorem HG.num {g : List Nat} (h : HG g) : hexNum (tS g) = hval (g.map lo1) := by
  unfold hexNum
  rw [h.low]; rfl
theorem mem_J {c : Nat} : ∀ {ss : List (List Nat)}, c ∈ J ss → c = 58 ∨ ∃ s ∈ ss, c ∈ s
  | [], h => by cases h
  | [s], h => .inr ⟨s, by simp, h⟩
  | s :: t :: r, h => by
    rw [J_cons2] at h
    rcases List.mem_append.mp h with h | h
    · exact .inr ⟨s, by simp, h⟩
    · rcases List.mem_cons.mp h with h | h
      · exact .inl h
      · rcases mem_J h with h | ⟨s, hs, h⟩
        · exact .inl h
        · exact .inr ⟨s, List.mem_cons_of_mem _ hs, h⟩
def qs (q : List Nat) : List (List Nat) := if q = [] then [] else [q]
structure QG (q : List Nat) : Prop where
  ok : q ≠ [] → quadFault q = none
theorem dots_mem {c : Nat} {q : List Nat} (h : c ∈ q) : c = 46 ∨ ∃ p ∈ dots q, c ∈ p := by
  have key : ∀ (l acc : List Nat), c ∈ acc ++ l → c = 46 ∨ ∃ p ∈ sp1 46 acc l, c ∈ p := by
    intro l
    induction l with
    | nil => intro acc h; exact .inr ⟨acc, by unfold sp1; simp, by simpa using h⟩
    | cons x r ih =>
      intro acc h
      unfold sp1
      split
      · rename_i e
        rcases List.mem_append.mp h with h | h
        · exact .inr ⟨acc, by simp, h⟩
        · rcases List.mem_cons.mp h with h | h
          · exact .inl (by rw [h, e])
          · rcases ih [] (by simpa using h) with h | ⟨p, hp, h⟩
            · exact .inl h
            · exact .inr ⟨p, List.mem_cons_of_mem _ hp, h⟩
      · exact ih _ (by simpa using h)
  exact key q [] (by simpa using h)
theorem first_all {ps : List (List Nat)} (h : firstFault ps = none) : ∀ p ∈ ps, partFault p = none := by
  induction ps with
  | nil => intro p hp; cases hp
  | cons x r ih =>
    unfold firstFault at h
    split at h
    · cases h
    · rename_i e
      intro p hp
      rcases List.mem_cons.mp hp with rfl | hp
      · exact e
      · exact ih h p hp
theorem quad_signs {q : List Nat} (h : quadFault q = none) : ∀ c ∈ q, c = 46 ∨ c ∈ hexU := by
  intro c hc
  unfold quadFault at h
  split at h
  · rcases dots_mem hc with h1 | ⟨p, hp, h1⟩
    · exact .inl h1
    · have := (fault_none (first_all h p hp)).2.1
      have := isDg_iff.mp (List.all_eq_true.mp this c h1)
      exact .inr (dg_ok c this.1 this.2)
  · cases h
theorem quad_dot {q : List Nat} (h : quadFault q = none) : 46 ∈ q := by
  refine Classical.byContradiction fun c => ?_
  have e : dots q = [q] := by unfold dots; rw [← sp1_spl, spl_last1 c, List.nil_append]
  unfold quadFault at h
  rw [e] at h
  cases h
theorem QG.free {q : List Nat} (h : QG q) : 58 ∉ q := fun hm => by
  have hq : q ≠ [] := fun e => by rw [e] at hm; cases hm
  rcases quad_signs (h.ok hq) _ hm with e | e
  · cases e
  · exact (hexU_ok _ e).2.2.2.1 rfl
theorem all_ok {ss : List (List Nat)} (h : ∀ s ∈ ss, ∀ c ∈ s, okSign c = true) : (J ss).all okSign = true := List.all_eq_true.mpr fun c hc => by
  rcases mem_J hc with e | ⟨s, hs, hc⟩
  · rw [e]; exact ok58
  · exact h s hs c hc
theorem QG.okS {q : List Nat} (h : QG q) : ∀ c ∈ q, okSign c = true := fun c hc => by
  have hq : q ≠ [] := fun e => by rw [e] at hc; cases hc
  rcases quad_signs (h.ok hq) c hc with e | e
  · rw [e]; exact ok46
  · exact (hexU_ok _ e).1
theorem quad_sh {z : Str} {I : List (List Nat)} {q : List Nat} (hz : tl z = J (I ++ [q])) (hq : q ≠ []) (hQ : QG q) (hI : ∀ s ∈ I, 46 ∉ s) (hf : Fr I) :
    wrongQuad z = false ∧ quadOf z = tS q ∧ plainOf z = tS (J (I ++ [[]])) := by
  have hz2 : tl z = J (I ++ [[]]) ++ q := by rw [hz, J_snoc]
  have hP : J (I ++ [[]]) = [] ∨ ∃ P', J (I ++ [[]]) = P' ++ [58] := by
    by_cases h : I = []
    · rw [h]; exact .inl rfl
    · exact .inr ⟨J I, J_end h⟩
  have hp := place_eq hz2 hQ.free hP
  have h46 : 46 ∈ z.cps.toList := by
    show 46 ∈ tl z
    rw [hz2]; exact List.mem_append_right _ (quad_dot (hQ.ok hq))
  have c1 : cutS z (some (qPlace z)) none = tS q := by rw [hp]; exact cut_hi hz2
  have c2 : cutS z none (some (qPlace z)) = tS (J (I ++ [[]])) := by rw [hp]; exact cut_lo hz2
  have n46 : 46 ∉ J (I ++ [[]]) := fun hm => by
    rcases mem_J hm with e | ⟨s, hs, hc⟩
    · cases e
    · rcases List.mem_append.mp hs with hs | hs
      · exact hI s hs hc
      · rw [List.mem_singleton.mp hs] at hc; cases hc
  have eq : quadOf z = tS q := by unfold quadOf; rw [if_pos h46, c1]
  refine ⟨?_, eq, ?_⟩
  · unfold wrongQuad
    rw [c1, c2, tl_tS, hQ.ok hq, decide_eq_false (show ¬ 46 ∈ (tS (J (I ++ [[]]))).cps.toList from n46)]
    simp
  · unfold plainOf
    rw [eq, if_neg (fun e => hq (by have := congrArg tl e; exact this)), c2]
theorem noquad_sh {z : Str} (h : 46 ∉ tl z) : wrongQuad z = false ∧ quadOf z = ("" : Str) ∧ plainOf z = z := by
  have h2 : ¬ 46 ∈ z.cps.toList := h
  have e : quadOf z = ("" : Str) := by unfold quadOf; rw [if_neg h2]
  refine ⟨?_, e, ?_⟩
  · unfold wrongQuad; rw [decide_eq_false h2]; rfl
  · unfold plainOf; rw [if_pos e]
theorem fault_of {z : Str} {ss : List (List Nat)} {p : P6} (hz : tl z = J ss) (hf : Fr ss) (ho : ∀ s ∈ ss, ∀ c ∈ s, okSign c = true) (hq : wrongQuad z = false) (hg : gaps2 ss = false) (he : sC ss = sC2 ss) (hr : sC ss.reverse = sC2 ss.reverse)
    (hp : partsOf z = p) (hl : ∀ g ∈ p.ahead ++ p.behind.getD [], g.length ≤ 4) (hw : p.wrong = false) : g6Fault z = none := by
  unfold g6Fault
  rw [hz, all_ok ho, if_neg (by simp), hq, if_neg (by simp), gaps_sh hz hf, hg, if_neg (by simp), ends_sh hz hf, he, hr, if_neg (by simp), hp, hw, if_neg, if_neg (by simp)]
  intro h
  have : (p.ahead ++ p.behind.getD []).all (fun g => decide ((g.length : Int) < 5)) = true := List.all_eq_true.mpr fun g hg => decide_eq_true (by have := hl g hg; omega)
  rw [this] at h
  cases h
theorem sC_good {A : List (List Nat)} {s : List Nat} (h : s ≠ []) : sC (s :: A) = false := by
  match s, h with
  | c :: s, _ => rfl
theorem sC2_good {A : List (List Nat)} {s : List Nat} (h : s ≠ []) : sC2 (s :: A) = false := by
  match s, h with
  | c :: s, _ => rfl
theorem HGs.fr {A : List (List Nat)} (h : ∀ g ∈ A, HG g) : Fr A := fun g hg => (h g hg).free
theorem qs_mem {q s : List Nat} (h : s ∈ qs q) : s = q ∧ q ≠ [] := by
  unfold qs at h
  split at h
  · cases h
  · rename_i c; exact ⟨List.mem_singleton.mp h, c⟩
theorem tS_len (g : List Nat) : (tS g).length = g.length := len_tl _
theorem tS_empty {q : List Nat} : tS q = ("" : Str) ↔ q = [] := ⟨fun e => by have := congrArg tl e; exact this, fun e => by rw [e]; rfl⟩
theorem read_whole {A : List (List Nat)} {q : List Nat} (hA : ∀ g ∈ A, HG g) (hQ : QG q) (hn : A.length + (if q = [] then 0 else 2) = 8) {z : Str} (hz : tl z = J (A ++ qs q)) :
    g6Fault z = none ∧ partsOf z = ⟨A.map tS, none, tS q⟩ := by
  have hne : ∀ g ∈ A, g ≠ [] := fun g hg => (hA g hg).ne
  have hnS : ∀ g ∈ A ++ qs q, g ≠ [] := fun g hg => by
    rcases List.mem_append.mp hg with hg | hg
    · exact hne g hg
    · rw [(qs_mem hg).1]; exact (qs_mem hg).2
  have hf : Fr (A ++ qs q) := fun g hg => by
    rcases List.mem_append.mp hg with hg | hg
    · exact (hA g hg).free
    · rw [(qs_mem hg).1]; exact hQ.free
  have ho : ∀ s ∈ A ++ qs q, ∀ c ∈ s, okSign c = true := fun g hg => by
    rcases List.mem_append.mp hg with hg | hg
    · exact (hA g hg).ok
    · rw [(qs_mem hg).1]; exact hQ.okS
  have hsc : ∀ ss : List (List Nat), (∀ g ∈ ss, g ≠ []) → sC ss = sC2 ss := fun ss h => by
    match ss, h with
    | [], _ => rfl
    | s :: r, h => rw [sC_good (h s (by simp)), sC2_good (h s (by simp))]
  have core : wrongQuad z = false ∧ partsOf z = ⟨A.map tS, none, tS q⟩ := by
    by_cases hq : q = []
    · subst hq
      have hz' : tl z = J A := by rw [hz]; unfold qs; rw [if_pos rfl, List.append_nil]
      have n46 : 46 ∉ tl z := fun hm => by
        rw [hz'] at hm
        rcases mem_J hm with e | ⟨s, hs, hc⟩
        · cases e
        · exact (hA s hs).nodot hc
      obtain ⟨w1, w2, w3⟩ := noquad_sh n46
      refine ⟨w1, ?_⟩
      have hfA := HGs.fr hA
      unfold partsOf
      rw [w3, inS_par _ _ (by rw [tl_colon2]; simp), tl_colon2, hz', par_gap _ hfA, gap_good hne, if_neg (by simp), ← tS_tl z, hz', rstrip_J hfA, rs_good hne, hexG_good hfA hne]
      rw [← hz', tS_tl, w2]; rfl
    · have hz' : tl z = J (A ++ [q]) := by rw [hz]; unfold qs; rw [if_neg hq]
      obtain ⟨w1, w2, w3⟩ := quad_sh hz' hq hQ (fun s hs => (hA s hs).nodot) (HGs.fr hA)
      refine ⟨w1, ?_⟩
      have hfe : Fr (A ++ [[]]) := fun g hg => by
        rcases List.mem_append.mp hg with hg | hg
        · exact (hA g hg).free
        · rw [List.mem_singleton.mp hg]; simp
      unfold partsOf
      rw [w3, inS_par _ _ (by rw [tl_colon2]; simp), tl_colon2, tl_tS, par_gap _ hfe, gap_none hne, if_neg (by simp), rstrip_J hfe, rs_end hne, hexG_good (HGs.fr hA) hne, w2]
  refine ⟨fault_of hz hf ho core.1 ?_ (hsc _ hnS) (hsc _ fun g hg => hnS g (List.mem_reverse.mp hg)) core.2 ?_ ?_, core.2⟩
  · unfold gaps2; rw [gap_good hnS]
  · intro g hg
    rw [show (P6.mk (A.map tS) none (tS q)).ahead ++ Option.getD (P6.mk (A.map tS) none (tS q)).behind [] = A.map tS from List.append_nil _] at hg
    obtain ⟨a, ha, rfl⟩ := List.mem_map.mp hg
    rw [tS_len]; exact (hA a ha).len
  · show (!decide (V.int (P6.many ⟨A.map tS, none, tS q⟩) = V.int 8)) = false
    have : P6.many ⟨A.map tS, none, tS q⟩ = 8 := by
      unfold P6.many
      show ((A.map tS).length : Int) + (0 : Nat) + 2 * (if tS q = ("" : Str) then 0 else 1) = 8
      rw [List.length_map]
      by_cases hq : q = []
      · rw [if_pos (tS_empty.mpr hq)]; rw [if_pos hq] at hn; omega
      · rw [if_neg (fun e => hq (tS_empty.mp e))]; rw [if_neg hq] at hn; omega
    rw [this]; rfl
theorem e1_mem {A : List (List Nat)} {s : List Nat} (h : s ∈ e1 A) : s = [] ∨ s ∈ A := by
  unfold e1 at h
  split at h
  · exact .inl (List.mem_singleton.mp h)
  · exact .inr h
theorem J_gap (A B : List (List Nat)) : J (e1 A ++ [] :: e1 B) = J A ++ 58 :: 58 :: J B := by
  rw [J_app (e1_ne A) (by simp), J_e1]
  have : J ([] :: e1 B) = 58 :: J (e1 B) := by
    match h : e1 B, e1_ne B with
    | x :: y, _ => rfl
  rw [this, J_e1]
theorem sC_e1 {B : List (List Nat)} (hn : ∀ g ∈ B, g ≠ []) : sC (e1 B) = false := by
  unfold e1
  split
  · rfl
  · match B, hn with
    | [], _ => rfl
    | s :: r, hn => exact sC_good (hn s (by simp))
theorem gap_e1 {B : List (List Nat)} (hn : ∀ g ∈ B, g ≠ []) : gap (e1 B) = none := by
  unfold e1
  split
  · rfl
  · exact gap_good hn
theorem sC_mid {A B : List (List Nat)} (hn : ∀ g ∈ A, g ≠ []) : sC (e1 A ++ [] :: e1 B) = sC2 (e1 A ++ [] :: e1 B) := by
  unfold e1
  split
  · split
    · rfl
    · rename_i h
      match B, h with
      | x :: y, _ => rfl
  · match A, hn with
    | [], _ => rename_i h; exact absurd rfl h
    | s :: r, hn => show sC (s :: (r ++ _)) = sC2 (s :: (r ++ _)); rw [sC_good (hn s (by simp)), sC2_good (hn s (by simp))]
theorem e1_rev (A : List (List Nat)) : (e1 A).reverse = e1 A.reverse := by
  unfold e1
  by_cases h : A = []
  · rw [h]; rfl
  · rw [if_neg h, if_neg (by simpa using h)]
theorem read_gap {A B : List (List Nat)} {q : List Nat} (hA : ∀ g ∈ A, HG g) (hB : ∀ g ∈ B, HG g) (hQ : QG q) (hn : A.length + B.length + (if q = [] then 0 else 2) ≤ 7) {z : Str} (hz : tl z = J A ++ 58 :: 58 :: J (B ++ qs q)) :
    g6Fault z = none ∧ partsOf z = ⟨A.map tS, some (B.map tS), tS q⟩ := by
  have neA : ∀ g ∈ A, g ≠ [] := fun g hg => (hA g hg).ne
  have neB : ∀ g ∈ B, g ≠ [] := fun g hg => (hB g hg).ne
  have neS : ∀ g ∈ B ++ qs q, g ≠ [] := fun g hg => by
    rcases List.mem_append.mp hg with hg | hg
    · exact neB g hg
    · rw [(qs_mem hg).1]; exact (qs_mem hg).2
  have hz1 : tl z = J (e1 A ++ [] :: e1 (B ++ qs q)) := by rw [hz, J_gap]
  have mem : ∀ {P : List Nat → Prop}, P [] → (∀ g ∈ A, P g) → (∀ g ∈ B, P g) → (q ≠ [] → P q) → ∀ s ∈ e1 A ++ [] :: e1 (B ++ qs q), P s := by
    intro P h0 h1 h2 h3 s hs
    rcases List.mem_append.mp hs with hs | hs
    · rcases e1_mem hs with e | hs
      · rw [e]; exact h0
      · exact h1 s hs
    · rcases List.mem_cons.mp hs with e | hs
      · rw [e]; exact h0
      · rcases e1_mem hs with e | hs
        · rw [e]; exact h0
        · rcases List.mem_append.mp hs with hs | hs
          · exact h2 s hs
          · rw [(qs_mem hs).1]; exact h3 (qs_mem hs).2
  have hf : Fr (e1 A ++ [] :: e1 (B ++ qs q)) := mem (P := fun s => 58 ∉ s) (by simp) (fun g hg => (hA g hg).free) (fun g hg => (hB g hg).free) (fun _ => hQ.free)
  have ho : ∀ s ∈ e1 A ++ [] :: e1 (B ++ qs q), ∀ c ∈ s, okSign c = true := mem (P := fun s => ∀ c ∈ s, okSign c = true) (by simp) (fun g hg => (hA g hg).ok) (fun g hg => (hB g hg).ok) (fun _ => hQ.okS)
  have hgap : gap (e1 A ++ [] :: e1 (B ++ qs q)) = some (e1 A, e1 (B ++ qs q)) := gap_mid (e1_ne _) neA
  have hfe : Fr (e1 A) := fun s hs => by
    rcases e1_mem hs with e | hs
    · rw [e]; simp
    · exact (hA s hs).free
  have core : wrongQuad z = false ∧ partsOf z = ⟨A.map tS, some (B.map tS), tS q⟩ := by
    have eA : hexGroups (tS (J A)) = A.map tS := hexG_good (HGs.fr hA) neA
    by_cases hq : q = []
    · subst hq
      have eqs : B ++ qs [] = B := by unfold qs; rw [if_pos rfl, List.append_nil]
      rw [eqs] at hz1 hgap hf
      have n46 : 46 ∉ tl z := fun hm => by
        rw [hz1] at hm
        rcases mem_J hm with e | ⟨s, hs, hc⟩
        · cases e
        · exact mem (P := fun s => 46 ∉ s) (by simp) (fun g hg => (hA g hg).nodot) (fun g hg => (hB g hg).nodot) (fun h => absurd rfl h) s (by rw [eqs]; exact hs) hc
      obtain ⟨w1, w2, w3⟩ := noquad_sh n46
      refine ⟨w1, ?_⟩
      have pp : par [58, 58] [] (tl z) = some (J (e1 A), J (e1 B)) := by rw [hz1, par_gap _ hf, hgap]; rfl
      have part : Txt.partition z ("::" : Str) = (tS (J (e1 A)), ("::" : Str), tS (J (e1 B))) := by
        rw [partition_par _ _ (by rw [tl_colon2]; simp), tl_colon2, pp]
      unfold partsOf
      rw [w3, inS_par _ _ (by rw [tl_colon2]; simp), tl_colon2, pp, if_pos (show (some _).isSome = true from rfl), part, w2]
      show P6.mk (hexGroups (tS (J (e1 A)))) (some (hexGroups (Txt.rstripChars (tS (J (e1 B))) (":" : Str)))) _ = _
      rw [J_e1, J_e1, eA, rstrip_J (HGs.fr hB), rs_good neB, hexG_good (HGs.fr hB) neB]; rfl
    · have eqs : B ++ qs q = B ++ [q] := by unfold qs; rw [if_neg hq]
      have ee : e1 (B ++ [q]) = B ++ [q] := by unfold e1; rw [if_neg (by simp)]
      rw [eqs, ee] at hz1 hgap hf
      have hz2 : tl z = J ((e1 A ++ [] :: B) ++ [q]) := by rw [hz1]; simp
      have mI : ∀ s ∈ e1 A ++ [] :: B, 46 ∉ s ∧ 58 ∉ s := fun s hs => by
        rcases List.mem_append.mp hs with hs | hs
        · rcases e1_mem hs with e | hs
          · rw [e]; simp
          · exact ⟨(hA s hs).nodot, (hA s hs).free⟩
        · rcases List.mem_cons.mp hs with e | hs
          · rw [e]; simp
          · exact ⟨(hB s hs).nodot, (hB s hs).free⟩
      obtain ⟨w1, w2, w3⟩ := quad_sh hz2 hq hQ (fun s hs => (mI s hs).1) (fun s hs => (mI s hs).2)
      refine ⟨w1, ?_⟩
      have eI : (e1 A ++ [] :: B) ++ [[]] = e1 A ++ [] :: (B ++ [[]]) := by simp
      have hfB : Fr (B ++ [[]]) := fun s hs => by
        rcases List.mem_append.mp hs with hs | hs
        · exact (hB s hs).free
        · rw [List.mem_singleton.mp hs]; simp
      have hfI : Fr (e1 A ++ [] :: (B ++ [[]])) := fun s hs => by
        rcases List.mem_append.mp hs with hs | hs
        · exact hfe s hs
        · rcases List.mem_cons.mp hs with e | hs
          · rw [e]; simp
          · exact hfB s hs
      have pp : par [58, 58] [] (J (e1 A ++ [] :: (B ++ [[]]))) = some (J (e1 A), J (B ++ [[]])) := by rw [par_gap _ hfI, gap_mid (by simp) neA]; rfl
      have part : Txt.partition (tS (J (e1 A ++ [] :: (B ++ [[]])))) ("::" : Str) = (tS (J (e1 A)), ("::" : Str), tS (J (B ++ [[]]))) := by
        rw [partition_par _ _ (by rw [tl_colon2]; simp), tl_colon2, tl_tS, pp]
      unfold partsOf
      rw [w3, eI, inS_par _ _ (by rw [tl_colon2]; simp), tl_colon2, tl_tS, pp, if_pos (show (some _).isSome = true from rfl), part, w2]
      show P6.mk (hexGroups (tS (J (e1 A)))) (some (hexGroups (Txt.rstripChars (tS (J (B ++ [[]]))) (":" : Str)))) _ = _
      rw [J_e1, eA, rstrip_J hfB, rs_end neB, hexG_good (HGs.fr hB) neB]
  refine ⟨fault_of hz1 hf ho core.1 ?_ (sC_mid neA) ?_ core.2 ?_ ?_, core.2⟩
  · unfold gaps2
    rw [hgap]
    show (sC (e1 (B ++ qs q)) || (gap (e1 (B ++ qs q))).isSome) = false
    rw [sC_e1 neS, gap_e1 neS]; rfl
  · have er : (e1 A ++ [] :: e1 (B ++ qs q)).reverse = e1 (B ++ qs q).reverse ++ [] :: e1 A.reverse := by
      rw [List.reverse_append, List.reverse_cons, e1_rev, e1_rev]; simp
    rw [er]
    exact sC_mid fun g hg => neS g (List.mem_reverse.mp hg)
  · intro g hg
    have hg : g ∈ A.map tS ++ B.map tS := hg
    rcases List.mem_append.mp hg with hg | hg
    · obtain ⟨a, ha, rfl⟩ := List.mem_map.mp hg
      rw [tS_len]; exact (hA a ha).len
    · obtain ⟨a, ha, rfl⟩ := List.mem_map.mp hg
      rw [tS_len]; exact (hB a ha).len
  · show decide (7 < P6.many ⟨A.map tS, some (B.map tS), tS q⟩) = false
    refine decide_eq_false ?_
    unfold P6.many
    show ¬ 7 < ((A.map tS).length : Int) + ((B.map tS).length : Int) + 2 * (if tS q = ("" : Str) then 0 else 1)
    rw [List.length_map, List.length_map]
    by_cases hq : q = []
    · rw [if_pos (tS_empty.mpr hq)]; rw [if_pos hq] at hn; omega
    · rw [if_neg (fun e => hq (tS_empty.mp e))]; rw [if_neg hq] at hn; omega
def gv (g : List Nat) : Nat := hval (g.map lo1)
theorem map_num {A : List (List Nat)} (hA : ∀ g ∈ A, HG g) : (A.map tS).map hexNum = A.map gv := by
  rw [List.map_map]
  exact List.map_congr_left fun g hg => (hA g hg).num
def qv (q : List Nat) : List Nat := if q = [] then [] else [quadVal (dots q) / 65536, quadVal (dots q) % 65536]
theorem qMore_tS (q : List Nat) : qMore (tS q) = qv q := by
  unfold qMore qv
  by_cases h : q = []
  · rw [if_pos (tS_empty.mpr h), if_pos h]
  · rw [if_neg (fun e => h (tS_empty.mp e)), if_neg h, tl_tS]
theorem val_whole {A : List (List Nat)} {q : List Nat} (hA : ∀ g ∈ A, HG g) (hn : A.length + (if q = [] then 0 else 2) = 8) : P6.val ⟨A.map tS, none, tS q⟩ = val16 (A.map gv ++ qv q) := by
  unfold P6.val
  have e1 : P6.first ⟨A.map tS, none, tS q⟩ = A.map gv ++ qv q := by
    show (A.map tS).map hexNum ++ qMore (tS q) = _
    rw [map_num hA, qMore_tS]
  have e2 : P6.last ⟨A.map tS, none, tS q⟩ = [] := rfl
  rw [e1, e2]
  have e3 : (A.map gv ++ qv q).length = 8 := by
    unfold qv
    rw [List.length_append, List.length_map]
    split <;> rename_i h
    · rw [if_pos h] at hn; simpa using hn
    · rw [if_neg h] at hn; simpa using hn
  rw [e3]; simp
theorem val_gap {A B : List (List Nat)} {q : List Nat} (hA : ∀ g ∈ A, HG g) (hB : ∀ g ∈ B, HG g) : P6.val ⟨A.map tS, some (B.map tS), tS q⟩ = val16 (A.map gv ++ List.replicate (8 - A.length - (B.length + (qv q).length)) 0 ++ (B.map gv ++ qv q)) := by
  unfold P6.val
  have e1 : P6.first ⟨A.map tS, some (B.map tS), tS q⟩ = A.map gv := by
    show (A.map tS).map hexNum ++ [] = _
    rw [map_num hA, List.append_nil]
  have e2 : P6.last ⟨A.map tS, some (B.map tS), tS q⟩ = B.map gv ++ qv q := by
    show (B.map tS).map hexNum ++ qMore (tS q) = _
    rw [map_num hB, qMore_tS]
  rw [e1, e2, List.length_map, List.length_append, List.length_map]
theorem hexOk_of {A : List (List Nat)} {o : Option (List (List Nat))} {q : Str} (hA : ∀ g ∈ A, HG g) (hB : ∀ B, o = some B → ∀ g ∈ B, HG g) : ∀ g ∈ (P6.mk (A.map tS) (o.map fun B => B.map tS) q).ahead ++ Option.getD (P6.mk (A.map tS) (o.map fun B => B.map tS) q).behind [], hexOk g := by
  intro g hg
  rcases List.mem_append.mp hg with hg | hg
  · obtain ⟨a, ha, rfl⟩ := List.mem_map.mp hg
    exact (hA a ha).hexOk
  · cases o with
    | none => cases hg
    | some B =>
      obtain ⟨a, ha, rfl⟩ := List.mem_map.mp hg
      exact (hB B rfl a ha).hexOk
structure Good6 (z : Str) (n : Nat) : Prop where
  ok : g6Fault z = none
  hex : ∀ g ∈ (partsOf z).ahead ++ (partsOf z).behind.getD [], hexOk g
  val : (partsOf z).val = n
theorem good_whole {A : List (List Nat)} {q : List Nat} (hA : ∀ g ∈ A, HG g) (hQ : QG q) (hn : A.length + (if q = [] then 0 else 2) = 8) {z : Str} (hz : tl z = J (A ++ qs q)) : Good6 z (val16 (A.map gv ++ qv q)) := by
  obtain ⟨h1, h2⟩ := read_whole hA hQ hn hz
  exact ⟨h1, by rw [h2]; exact hexOk_of (o := none) hA (fun _ e => by cases e), by rw [h2]; exact val_whole hA hn⟩
theorem good_gap {A B : List (List Nat)} {q : List Nat} (hA : ∀ g ∈ A, HG g) (hB : ∀ g ∈ B, HG g) (hQ : QG q) (hn : A.length + B.length + (if q = [] then 0 else 2) ≤ 7) {z : Str} (hz : tl z = J A ++ 58 :: 58 :: J (B ++ qs q)) :
    Good6 z (val16 (A.map gv ++ List.replicate (8 - A.length - (B.length + (qv q).length)) 0 ++ (B.map gv ++ qv q))) := by
  obtain ⟨h1, h2⟩ := read_gap hA hB hQ hn hz
  exact ⟨h1, by rw [h2]; exact hexOk_of (o := some B) hA (fun _ e => by cases e; exact hB), by rw [h2]; exact val_gap hA hB⟩
theorem val_gN {n : Int} (h0 : 0 ≤ n) (h1 : n < 340282366920938463463374607431768211456) : (val16 (gN n) : Int) = n := by
  have e : ∀ s : Nat, ((n / 2 ^ s % 65536).toNat : Int) = n / 2 ^ s % 65536 := fun s => Int.toNat_of_nonneg (by omega)
  have p0 : (2 : Int) ^ 0 = 1 := by decide
  have p1 : (2 : Int) ^ 16 = 65536 := by decide
  have p2 : (2 : Int) ^ 32 = 4294967296 := by decide
  have p3 : (2 : Int) ^ 48 = 281474976710656 := by decide
  have p4 : (2 : Int) ^ 64 = 18446744073709551616 := by decide
  have p5 : (2 : Int) ^ 80 = 1208925819614629174706176 := by decide
  have p6 : (2 : Int) ^ 96 = 79228162514264337593543950336 := by decide
  have p7 : (2 : Int) ^ 112 = 5192296858534827628530496329220096 := by decide
  have c0 := e 0
  have c1 := e 16
  have c2 := e 32
  have c3 := e 48
  have c4 := e 64
  have c5 := e 80
  have c6 := e 96
  have c7 := e 112
  unfold val16 gN
  simp only [List.map_cons, List.map_nil, List.foldl_cons, List.foldl_nil]
  rw [p0] at *; rw [p1] at *; rw [p2] at *; rw [p3] at *; rw [p4] at *; rw [p5] at *; rw [p6] at *; rw [p7] at *
  omega
theorem join_J (xs : List Str) : tl (Txt.join (":" : Str) xs) = J (xs.map tl) := by rw [join_eq, tl_join, tl_colon]
theorem g6S_len (n : Int) : (g6S n).length ≤ 100 := by
  have hs : ∀ g ∈ (gN n).map hexS, g.length ≤ 4 := fa_map fun g hg => hexS_len (gN_b n g hg)
  have jl : ∀ xs : List Str, (∀ g ∈ xs, g.length ≤ 4) → xs.length ≤ 8 → (Txt.join (":" : Str) xs).length ≤ 40 := fun xs h h2 => Nat.le_trans (join_len (k := 4) h) (Nat.le_trans (Nat.mul_le_mul_right _ h2) (by decide +kernel))
  have c2 : ("::" : Str).length = 2 := by decide +kernel
  unfold g6S g6T
  split
  · exact Nat.le_trans (jl _ hs (by rw [List.length_map, gN_len]; omega)) (by decide)
  · have a := jl (((gN n).take (lr (gN n)).1).map hexS) (fun g hg => hs g (by rw [List.map_take] at hg; exact List.mem_of_mem_take hg)) (by rw [List.length_map, List.length_take, gN_len]; omega)
    have b := jl (((gN n).drop ((lr (gN n)).1 + (lr (gN n)).2)).map hexS) (fun g hg => hs g (by rw [List.map_drop] at hg; exact List.mem_of_mem_drop hg)) (by rw [List.length_map, List.length_drop, gN_len]; omega)
    rw [Str_len_app, Str_len_app, c2]; omega
structure Shard (g : Nat) (t : Str) : Prop where
  ok : HG (tl t)
  val : gv (tl t) = g
theorem up_lo : ∀ c, c < 128 → lo1 (up1 c) = lo1 c := by decide +kernel
theorem up_hexU : ∀ c ∈ hexU, up1 c ∈ hexU := by decide +kernel
theorem Shard.len {g : Nat} {t : Str} (h : Shard g t) : t.length ≤ 4 := by rw [len_tl]; exact h.ok.len
theorem Shard.upper {g : Nat} {t : Str} (h : Shard g t) : Shard g (Txt.upper t) := by
  have ha : ∀ c ∈ t.cps.toList, c < 128 := fun c hc => (hexU_ok _ (h.ok.hex _ (show c ∈ tl t from hc))).2.2.1
  have e : tl (Txt.upper t) = (tl t).map up1 := by
    rw [upper_ascii ha]
    show (t.cps.map up1).toList = _
    rw [Array.toList_map]
  refine ⟨⟨?_, ?_, ?_⟩, ?_⟩
  · rw [e]; exact fun z => h.ok.ne (List.map_eq_nil_iff.mp z)
  · rw [e, List.length_map]; exact h.ok.len
  · rw [e]
    intro c hc
    obtain ⟨d, hd, rfl⟩ := List.mem_map.mp hc
    exact up_hexU d (h.ok.hex d hd)
  · rw [e]
    have e2 : gv ((tl t).map up1) = gv (tl t) := by
      unfold gv
      rw [List.map_map]
      congr 1
      exact List.map_congr_left fun c hc => up_lo c (ha c hc)
    rw [e2]; exact h.val
def Shards : List Nat → List Str → Prop
  | [], [] => True
  | g :: gs, t :: ts => Shard g t ∧ Shards gs ts
  | _, _ => False
theorem Shards.len : ∀ {gs : List Nat} {ts : List Str}, Shards gs ts → ts.length = gs.length
  | [], [], _ => rfl
  | _ :: gs, _ :: ts, h => by rw [List.length_cons, List.length_cons, Shards.len h.2]
  | [], _ :: _, h => h.elim
  | _ :: _, [], h => h.elim
theorem Shards.all : ∀ {gs : List Nat} {ts : List Str}, Shards gs ts → (∀ t ∈ ts.map tl, HG t) ∧ (ts.map tl).map gv = gs
  | [], [], _ => ⟨fun t h => (by cases h), rfl⟩
  | _ :: gs, _ :: ts, h => by
    obtain ⟨a, b⟩ := Shards.all h.2
    exact ⟨fa_cons h.1.ok a, by rw [List.map_cons, List.map_cons, h.1.val, b]⟩
  | [], _ :: _, h => h.elim
  | _ :: _, [], h => h.elim
theorem Shards.take : ∀ {gs : List Nat} {ts : List Str} (k : Nat), Shards gs ts → Shards (gs.take k) (ts.take k)
  | [], [], k, _ => by simp [Shards]
  | _ :: gs, _ :: ts, 0, h => trivial
  | _ :: gs, _ :: ts, k + 1, h => ⟨h.1, Shards.take k h.2⟩
  | [], _ :: _, _, h => h.elim
  | _ :: _, [], _, h => h.elim
structure Texts (n : Int) (e : Nat) (ts : List Str) : Prop where
  ex : ∃ (A : List (List Nat)) (q : List Nat), ts.map tl = A ++ qs q ∧ (∀ g ∈ A, HG g) ∧ QG q ∧ A.length = e ∧ A.map gv = (gN n).take e ∧ qv q = (gN n).drop e ∧ (e = 8 ∧ q = [] ∨ e = 6 ∧ q ≠ [])
  short : ∀ t ∈ ts, t.length ≤ 16
theorem Texts.good {n : Int} {e : Nat} {ts : List Str} (h : Texts n e ts) (h0 : 0 ≤ n) (h1 : n < 340282366920938463463374607431768211456) : Good6 (Txt.join (":" : Str) ts) n.toNat := by
  obtain ⟨A, q, e1, hA, hQ, hl, hv, hq, hc⟩ := h.ex
  have hn : A.length + (if q = [] then 0 else 2) = 8 := by
    rcases hc with ⟨rfl, rfl⟩ | ⟨rfl, z⟩
    · rw [hl]; rfl
    · rw [hl, if_neg z]
  have k := good_whole hA hQ hn (z := Txt.join (":" : Str) ts) (by rw [join_J, e1])
  have hv2 := val_gN h0 h1
  rw [hv, hq, List.take_append_drop] at k
  rw [show val16 (gN n) = n.toNat by omega] at k
  exact k
theorem Texts.gap {n : Int} {e b en : Nat} {ts : List Str} (h : Texts n e ts) (h0 : 0 ≤ n) (h1 : n < 340282366920938463463374607431768211456) (hb : b < en) (hen : en ≤ e) (hz : ((gN n).drop b).take (en - b) = List.replicate (en - b) 0) :
    Good6 (Txt.join (":" : Str) (ts.take b) ++ ("::" : Str) ++ Txt.join (":" : Str) (ts.drop en)) n.toNat := by
  obtain ⟨A, q, e1, hA, hQ, hl, hv, hq, hc⟩ := h.ex
  have hq8 : (qv q).length = 8 - e := by rw [hq, List.length_drop, gN_len]
  have he8 : e ≤ 8 := by omega
  have hz1 : tl (Txt.join (":" : Str) (ts.take b) ++ ("::" : Str) ++ Txt.join (":" : Str) (ts.drop en)) = J (A.take b) ++ 58 :: 58 :: J (A.drop en ++ qs q) := by
    rw [tl_append, tl_append, join_J, join_J, tl_colon2, List.map_take, List.map_drop, e1, List.take_append_of_le_length (by omega), List.drop_append_of_le_length (by omega), List.append_assoc]; rfl
  have k := good_gap (A := A.take b) (B := A.drop en) (fun g hg => hA g (List.mem_of_mem_take hg)) (fun g hg => hA g (List.mem_of_mem_drop hg)) hQ (by
    rw [List.length_take, List.length_drop, hl]
    rcases hc with ⟨rfl, rfl⟩ | ⟨rfl, z⟩
    · rw [if_pos rfl]; omega
    · rw [if_neg z]; omega) hz1
  have ev : (A.take b).map gv ++ List.replicate (8 - (A.take b).length - ((A.drop en).length + (qv q).length)) 0 ++ ((A.drop en).map gv ++ qv q) = gN n := by
    have l1 : (A.take b).length = b := by rw [List.length_take]; omega
    have l2 : (A.drop en).length = e - en := by rw [List.length_drop]; omega
    rw [l1, l2, hq8, show 8 - b - (e - en + (8 - e)) = en - b by omega, List.map_take, List.map_drop, hv, hq, ← hz]
    have a1 : ((gN n).take e).take b = (gN n).take b := by rw [List.take_take, Nat.min_eq_left (by omega)]
    have a2 : ((gN n).take e).drop en ++ (gN n).drop e = (gN n).drop en := by
      have : (gN n).drop en = ((gN n).take e ++ (gN n).drop e).drop en := by rw [List.take_append_drop]
      rw [this, List.drop_append_of_le_length (by rw [List.length_take, gN_len]; omega)]
    rw [a1, a2]
    have a3 : (gN n).drop b = ((gN n).drop b).take (en - b) ++ (gN n).drop en := by
      have := List.take_append_drop (en - b) ((gN n).drop b)
      rw [List.drop_drop, show b + (en - b) = en by omega] at this
      exact this.symm
    rw [List.append_assoc, ← a3, List.take_append_drop]
  rw [ev] at k
  have hv2 := val_gN h0 h1
  rw [show val16 (gN n) = n.toNat by omega] at k
  exact k
def PairV (P : Nat → Nat → Prop) (H : Hp) (v : V) : Prop := ∃ (r : Addr) (x y : Int) (b e : Nat), v = .ref r ∧ H r = some (.tup [.int x, .int y]) ∧ x = b ∧ y = e ∧ P b e
theorem PairV.sml {P : Nat → Nat → Prop} {H H' : Hp} {v : V} (h : PairV P H v) (s : Sml H H') : PairV P H' v := by
  obtain ⟨r, x, y, b, e, h1, h2, h3⟩ := h
  exact ⟨r, x, y, b, e, h1, s _ _ h2 (fun _ z => by cases z), h3⟩
theorem PairV.same {P : Nat → Nat → Prop} {H H' : Hp} {v : V} (h : PairV P H v) (s : Same H H') : PairV P H' v := h.sml (Same.sml s)
def Run (n : Int) (e : Nat) (b en : Nat) : Prop := b < en ∧ en ≤ e ∧ ((gN n).drop b).take (en - b) = List.replicate (en - b) 0
end An

set_option Elab.async false
set_option linter.all false
set_option maxRecDepth 100000
set_option maxHeartbeats 4000000
set_option pp.deepTerms false
set_option pp.deepTerms.threshold 5
set_option pp.maxSteps 1500

namespace Dn
open PySem PySem.W PySem.Spec PyProof.Rows L2 TL Bits An
def mtK (T : String) (f : D → List D → M D) (a : Rh → M (List D)) (ρ : Rh) (x : D) : M D := match isOf T x with
  | true => bind (a ρ) fun ds => f x ds
  | false => fail
def mthK (tbl : Fns) (m : Str) (a : Rh → M (List D)) (ρ : Rh) (x : D) : M D := match mthF tbl m x with
  | some F => bind (a ρ) fun ds => F (x :: ds)
  | none => fail
def mthKK (tbl : Fns) (m : Str) (nk : Nat) (gD : List D → List D → List D) (kk : Rh → M (List D)) (ρ : Rh) (x : D) : M D := match mthF tbl m x with
  | some F => bind (kk ρ) fun es => need (es.length = nk) (F (gD [x] es))
  | none => fail
def jsK (ms : List (Rh → M D)) (acc : Str) (ρ : Rh) (x : D) : M D := match x with
  | .str y => need ((acc ++ y).length ≤ sizeLine) (eJs ms (acc ++ y) ρ)
  | _ => fail
theorem cm_l {i j : Int} (h : -18446744073709551616 < i ∧ i < 18446744073709551616) : cMul i j := Or.inl (cmul_l h)
theorem cm_r {i j : Int} (h : -18446744073709551616 < j ∧ j < 18446744073709551616) : cMul i j := Or.inl (cmul_r h)
theorem forL_inv {g : Tg} {b : Sm} {ds : List D} {ρ : Rh} {S : Sv} {nx bk ct : Rh → Sv → Prop} {rt : D → Sv → Prop} {ex : Xn → Rh → Sv → Prop} (I : Nat → Rh → Sv → Prop) (h0 : I 0 ρ S)
    (step : ∀ (i : Nat) d ρ S (N : Rh → Sv → Prop), ds[i]? = some d → I i ρ S → (∀ ρ' S', I (i + 1) ρ' S' → N ρ' S') → g d ρ fun ρ' => b ρ' S (EndsD.mk N rt nx N ex))
    (hend : ∀ ρ S, I ds.length ρ S → nx ρ S) : forL g b ds ρ S (EndsD.mk nx rt bk ct ex) := by
  suffices h : ∀ (l : List Dn.D) (i : Nat) ρ S, (∀ j d, l[j]? = some d → ds[i + j]? = some d) → i + l.length = ds.length → I i ρ S → forL g b l ρ S (EndsD.mk nx rt bk ct ex) from h ds 0 ρ S (fun j d e => by rw [Nat.zero_add]; exact e) (by omega) h0
  intro l
  induction l with
  | nil =>
    intro i ρ S _ e hi
    have e2 : i = ds.length := by simpa using e
    subst e2
    exact hend ρ S hi
  | cons d l ih =>
    intro i ρ S hj e hi
    exact step i d ρ S _ (hj 0 d rfl) hi fun ρ' S' h => ih (i + 1) ρ' S' (fun j d' e' => by have := hj (j + 1) d' (by simpa using e'); rw [show i + 1 + j = i + (j + 1) by omega]; exact this) (by simp at e; omega) h
theorem forL_mp {α : Type} {it : α → D} {g : Tg} {b : Sm} {xs : List α} {ρ : Rh} {S : Sv} {nx bk ct : Rh → Sv → Prop} {rt : D → Sv → Prop} {ex : Xn → Rh → Sv → Prop} (I : List α → List α → Rh → Sv → Prop) (h0 : I [] xs ρ S)
    (step : ∀ (l : List α) (a : α) (r : List α) ρ S (N : Rh → Sv → Prop), xs = l ++ a :: r → I l (a :: r) ρ S → (∀ ρ' S', I (l ++ [a]) r ρ' S' → N ρ' S') → g (it a) ρ fun ρ' => b ρ' S (EndsD.mk N rt nx N ex))
    (hend : ∀ ρ S, I xs [] ρ S → nx ρ S) : forL g b (xs.map it) ρ S (EndsD.mk nx rt bk ct ex) := by
  suffices h : ∀ (r l : List α) ρ S, xs = l ++ r → I l r ρ S → forL g b (r.map it) ρ S (EndsD.mk nx rt bk ct ex) from h xs [] ρ S rfl h0
  intro r
  induction r with
  | nil =>
    intro l ρ S e hi
    rw [List.append_nil] at e
    subst e
    exact hend ρ S hi
  | cons a r ih =>
    intro l ρ S e hi
    exact step l a r ρ S _ e hi fun ρ' S' h => ih (l ++ [a]) ρ' S' (by rw [e, List.append_assoc]; rfl) h
abbrev MonoG (g : Tg) : Prop := ∀ d ρ k k', (∀ ρ', k ρ' → k' ρ') → g d ρ k → g d ρ k'
theorem mono_gN {i : Nat} : MonoG (gN i) := fun _ _ _ _ h q => h _ q
theorem compL_mp {α : Type} {g : Tg} {e : Rh → M D} {ρ : Rh} (it f : α → D) (hg : MonoG g) : ∀ {xs : List α} {S : Sv} {Q : List D → Sv → Prop} {E : Xn → Sv → Prop}, (∀ c ∈ xs, ∀ (Q' : D → Sv → Prop), Q' (f c) S → g (it c) ρ fun ρ' => e ρ' S Q' E) → Q (xs.map f) S → compL g bYes e (xs.map it) ρ S Q E
  | [], _, _, _, _, q => q
  | c :: xs, S, Q, E, h, q => by
    show compL g bYes e (it c :: xs.map it) ρ S Q E
    unfold compL
    exact hg _ _ _ _ (fun ρ' z => ⟨fun _ => z, fun z => by cases z⟩) (h c (List.mem_cons_self ..) (fun x S2 => compL g bYes e (xs.map it) ρ S2 (fun xs S3 => Q (x :: xs) S3) E) (compL_mp it f hg (fun d' m => h d' (List.mem_cons_of_mem _ m)) q))
theorem rng_get {lo : Int} {n i : Nat} {d : D} (h : (rngL lo n)[i]? = some d) : d = .int (lo + (i : Nat)) ∧ i < n := by
  unfold rngL at h
  rw [List.getElem?_map] at h
  cases e : (List.range n)[i]? with
  | none => rw [e] at h; cases h
  | some k =>
    rw [e] at h
    obtain ⟨h1, h2⟩ := List.getElem?_eq_some_iff.mp e
    rw [List.getElem_range] at h2
    rw [List.length_range] at h1
    subst h2
    exact ⟨(Option.some.inj h).symm, h1⟩
theorem rng_len {lo : Int} {n : Nat} : (rngL lo n).length = n := by unfold rngL; simp
theorem pickD {xs : List D} {r : Int} {S : Sv} {Q : D → Sv → Prop} {E : Xn → Sv → Prop} (h0 : 0 ≤ r) (h1 : r < xs.length) (h : ∀ d ∈ xs, Q d S) : ixD (.lst xs) (.int r) S Q E := by
  obtain ⟨k, rfl⟩ := Int.eq_ofNat_of_zero_le h0
  have hk : k < xs.length := by omega
  show orFail (atI xs (k : Int)) S Q E
  have e : atI xs (k : Int) = some xs[k] := by
    unfold atI ixN
    simp [hk]
  rw [e]
  exact h _ (List.getElem_mem hk)
theorem orF {α : Type} {o : Option α} {a : α} {S : Sv} {Q : α → Sv → Prop} {E : Xn → Sv → Prop} (e : o = some a) (q : Q a S) : orFail o S Q E := by subst e; exact q
def optD : Option Str → D
  | none => .non
  | some x => .str x
theorem blsL_map {α : Type} (f : α → Bool) : ∀ xs : List α, blsL (xs.map fun x => D.bl (f x)) = some (xs.map f)
  | [] => rfl
  | x :: xs => by
    show (blsL (xs.map fun x => D.bl (f x))).map (f x :: ·) = _
    rw [blsL_map f xs]
    rfl
theorem all_map {α : Type} {f : α → Bool} {xs : List α} {S : Sv} {Q : D → Sv → Prop} {E : Xn → Sv → Prop} (h : Q (.bl (xs.all f)) S) : allD [.lst (xs.map fun x => D.bl (f x))] S Q E := by
  show orFail ((blsL (xs.map fun x => D.bl (f x))).map fun ns => .bl (ns.all id)) S Q E
  refine orF (a := .bl (xs.all f)) ?_ h
  rw [blsL_map]
  show some (D.bl ((xs.map f).all id)) = some (D.bl (xs.all f))
  rw [List.all_map]
  rfl
theorem strsL_map : ∀ xs : List Str, strsL (xs.map D.str) = some xs
  | [] => rfl
  | x :: xs => by
    show (strsL (xs.map D.str)).map (x :: ·) = _
    rw [strsL_map xs]
    rfl
theorem intsL_map : ∀ xs : List Int, intsL (xs.map D.int) = some xs
  | [] => rfl
  | x :: xs => by
    show (intsL (xs.map D.int)).map (x :: ·) = _
    rw [intsL_map xs]
    rfl
theorem ix_str {z : Str} {i : Int} {c : Nat} {S : Sv} {Q : D → Sv → Prop} {E : Xn → Sv → Prop} (hz : z.length ≤ sizeLine) (e : atI (tl z) i = some c) (h : Q (.str ⟨#[c]⟩) S) : ixD (.str z) (.int i) S Q E := by
  show need (z.length ≤ sizeLine) (orFail ((atI (tl z) i).map fun c => D.str ⟨#[c]⟩)) S Q E
  exact ⟨hz, orF (by rw [e]; rfl) h⟩
theorem sgn_inj {a b : Nat} (h : (⟨#[a]⟩ : Str) = ⟨#[b]⟩) : a = b := by
  have e := congrArg tl h
  have e2 : [a] = [b] := e
  injection e2
theorem atN {α : Type} {xs : List α} {k : Nat} {v : α} (h : xs[k]? = some v) : atI xs (k : Int) = some v := by
  obtain ⟨h1, h2⟩ := List.getElem?_eq_some_iff.mp h
  unfold atI ixN
  simp [h1, h2]
def fin (r : Except Xn D) : M D := match r with
  | .ok d => ret d
  | .error x => raise x



class Fe {α : Type} (m : M α) : Prop where
  two : ∀ S Q E Q' E', m S Q E → m S Q' E' → (∃ a S', Q a S' ∧ Q' a S') ∨ (∃ x S', E x S' ∧ E' x S')
class FeS (s : Sm) : Prop where
  two : ∀ ρ S (D D' : EndsD), s ρ S D → s ρ S D' → (∃ ρ' S', D.nx ρ' S' ∧ D'.nx ρ' S') ∨ (∃ d S', D.rt d S' ∧ D'.rt d S') ∨ (∃ ρ' S', D.bk ρ' S' ∧ D'.bk ρ' S') ∨ (∃ ρ' S', D.ct ρ' S' ∧ D'.ct ρ' S') ∨ (∃ x ρ' S', D.ex x ρ' S' ∧ D'.ex x ρ' S')
class FeG (g : Tg) : Prop where
  two : ∀ d ρ k k', g d ρ k → g d ρ k' → ∃ ρ', k ρ' ∧ k' ρ'
class FeGs (g : Tgs) : Prop where
  two : ∀ ds ρ k k', g ds ρ k → g ds ρ k' → ∃ ρ', k ρ' ∧ k' ρ'
theorem fe_ret {m : M α} [h : Fe m] {S : Sv} {v : α} (q : ∀ (Q : α → Sv → Prop) E, Q v S → m S Q E) (Q : α → Sv → Prop) (E : Xn → Sv → Prop) : m S Q E = Q v S := by
  refine propext ⟨fun z => ?_, fun z => q Q E z⟩
  rcases h.two S _ _ _ _ z (q (fun a S' => a = v ∧ S' = S) (fun _ _ => False) ⟨rfl, rfl⟩) with ⟨a, S', z1, rfl, rfl⟩ | ⟨_, _, _, z⟩
  · exact z1
  · exact z.elim
section
variable {α β : Type} {ρ : Rh}
instance {a : α} : Fe (ret a) := ⟨fun S _ _ _ _ h h' => .inl ⟨a, S, h, h'⟩⟩
instance : Fe (fail : M α) := ⟨fun _ _ _ _ _ h _ => h.elim⟩
instance {x : Xn} : Fe (raise x : M α) := ⟨fun S _ _ _ _ h h' => .inr ⟨x, S, h, h'⟩⟩
instance {m : M α} {k : α → M β} [hm : Fe m] [hk : ∀ a, Fe (k a)] : Fe (bind m k) := ⟨fun _ _ _ _ _ h h' => by
  rcases hm.two _ _ _ _ _ h h' with ⟨a, S', x, y⟩ | z
  · exact (hk a).two _ _ _ _ _ x y
  · exact .inr z⟩
instance {c : Prop} {m : M α} [hm : Fe m] : Fe (need c m) := ⟨fun _ _ _ _ _ h h' => hm.two _ _ _ _ _ h.2 h'.2⟩
instance {m : M α} [hm : Fe m] : Fe (noex m) := ⟨fun _ _ _ _ _ h h' => by
  rcases hm.two _ _ _ _ _ h h' with z | ⟨_, _, z, _⟩
  · exact .inl z
  · exact z.elim⟩
instance {c : Bool} {m n : M α} [hm : Fe m] [hn : Fe n] : Fe (iteM c m n) := ⟨fun _ _ _ _ _ h h' => by
  cases c
  · exact hn.two _ _ _ _ _ (h.2 rfl) (h'.2 rfl)
  · exact hm.two _ _ _ _ _ (h.1 rfl) (h'.1 rfl)⟩
instance {i : Nat} : Fe (rd i ρ) := by unfold rd; split <;> infer_instance
instance {d : D} : Fe (cD d ρ) := by unfold cD; infer_instance
instance {f : D → D → M D} {a b : Rh → M D} [∀ x y, Fe (f x y)] [∀ ρ, Fe (a ρ)] [∀ ρ, Fe (b ρ)] : Fe (eBin f a b ρ) := by unfold eBin; infer_instance
instance {d : D} : Fe (asB d) := by unfold asB; split <;> infer_instance
instance {d : D} : Fe (truD d) := by unfold truD; split <;> infer_instance
instance {f : D → M Bool} {a b : Rh → M D} [∀ x, Fe (f x)] [∀ ρ, Fe (a ρ)] [∀ ρ, Fe (b ρ)] : Fe (eAnd f a b ρ) := by unfold eAnd; infer_instance
instance {f : D → M Bool} {a b : Rh → M D} [∀ x, Fe (f x)] [∀ ρ, Fe (a ρ)] [∀ ρ, Fe (b ρ)] : Fe (eOr f a b ρ) := by unfold eOr; infer_instance
instance {ds : List D} : Fe (lstM ds) := by unfold lstM; infer_instance
instance : Fe (aNil ρ) := by unfold aNil; infer_instance
instance {a : Rh → M D} [∀ ρ, Fe (a ρ)] : Fe (eOrN a ρ) := by unfold eOrN; infer_instance
instance {f : D → M Bool} {a : Rh → M D} [∀ x, Fe (f x)] [∀ ρ, Fe (a ρ)] : Fe (eNot f a ρ) := by unfold eNot; infer_instance
instance {c : Rh → M Bool} {a b : Rh → M D} [∀ ρ, Fe (c ρ)] [∀ ρ, Fe (a ρ)] [∀ ρ, Fe (b ρ)] : Fe (eIf c a b ρ) := by unfold eIf; infer_instance
instance {a b : Rh → M Bool} [∀ ρ, Fe (a ρ)] [∀ ρ, Fe (b ρ)] : Fe (bAnd a b ρ) := by unfold bAnd; infer_instance
instance {a b : Rh → M Bool} [∀ ρ, Fe (a ρ)] [∀ ρ, Fe (b ρ)] : Fe (bOr a b ρ) := by unfold bOr; infer_instance
instance {a : Rh → M Bool} [∀ ρ, Fe (a ρ)] : Fe (bNot a ρ) := by unfold bNot; infer_instance
instance : Fe (bYes ρ) := by unfold bYes; infer_instance
instance {f g : D → D → M D} {a b c : Rh → M D} [∀ x y, Fe (f x y)] [∀ x y, Fe (g x y)] [∀ ρ, Fe (a ρ)] [∀ ρ, Fe (b ρ)] [∀ ρ, Fe (c ρ)] : Fe (eChain f g a b c ρ) := by unfold eChain; infer_instance
instance : Fe (aNil ρ) := by unfold aNil; infer_instance
instance {a : Rh → M D} {b : Rh → M (List D)} [∀ ρ, Fe (a ρ)] [∀ ρ, Fe (b ρ)] : Fe (aCons a b ρ) := by unfold aCons; infer_instance
instance {ds : List D} : Fe (lstM ds) := by unfold lstM; infer_instance
instance {ds : List D} : Fe (tupM ds) := by unfold tupM; infer_instance
instance {ds : List D} : Fe (srcM ds) := by unfold srcM; split <;> infer_instance
instance {f : Str} {ns : List Str} {ds : List D} : Fe (fldOf f ns ds) := by unfold fldOf; split <;> infer_instance
instance {n : Bool} {a b : D} : Fe (eqB n a b) := by unfold eqB; split <;> infer_instance
instance {a b : D} : Fe (subD a b) := by unfold subD; split <;> infer_instance
instance {a b : D} : Fe (addD a b) := by unfold addD; split <;> infer_instance
instance {a b : D} : Fe (iaddD a b) := by unfold iaddD; split <;> infer_instance
instance {a b : D} : Fe (mulD a b) := by unfold mulD; split <;> infer_instance
instance {a b : D} : Fe (fdivD a b) := by unfold fdivD; split <;> infer_instance
instance {a b : D} : Fe (modD a b) := by unfold modD; split <;> infer_instance
instance {a b : D} : Fe (powD a b) := by unfold powD; split <;> infer_instance
instance {a b : D} : Fe (shlD a b) := by unfold shlD; split <;> infer_instance
instance {a b : D} : Fe (shrD a b) := by unfold shrD; split <;> infer_instance
instance {a b : D} : Fe (andD a b) := by unfold andD; split <;> infer_instance
instance {a b : D} : Fe (orD a b) := by unfold orD; split <;> infer_instance
instance {a b : D} : Fe (xorD a b) := by unfold xorD; split <;> infer_instance
instance {a : D} : Fe (negD a) := by unfold negD; split <;> infer_instance
instance {o : Option α} : Fe (orFail o) := by unfold orFail; split <;> infer_instance
instance {r : Int → Int → Bool} {z : Nat → Nat → Bool} {a b : List D} : Fe (ordT r z a b) := by unfold ordT; split <;> infer_instance
instance {a b : D} : Fe (ltD a b) := by unfold ltD; split <;> infer_instance
instance {a b : D} : Fe (leD a b) := by unfold leD; split <;> infer_instance
instance {a b : D} : Fe (gtD a b) := by unfold gtD; split <;> infer_instance
instance {a b : D} : Fe (geD a b) := by unfold geD; split <;> infer_instance
instance {n : Bool} {a b : D} : Fe (isD n a b) := by unfold isD; split <;> infer_instance
instance {a b : D} : Fe (mulX a b) := by unfold mulX; split; split; all_goals infer_instance
instance {n : Bool} {a b : D} : Fe (isBD n a b) := by unfold isBD; split <;> infer_instance
instance {n : Bool} {a b : D} : Fe (inD n a b) := by unfold inD; split <;> (try split) <;> infer_instance
instance {a : D} : Fe (itD a) := by unfold itD; split <;> infer_instance
instance {a : List D} : Fe (rng1D a) := by unfold rng1D; split <;> infer_instance
instance {a : List D} : Fe (rng2D a) := by unfold rng2D; split <;> infer_instance
instance {a : List D} : Fe (rng3D a) := by unfold rng3D; split <;> infer_instance
instance {a : List D} : Fe (enumD a) := by unfold enumD; split <;> infer_instance
instance {a : List D} : Fe (zip2D a) := by unfold zip2D; split <;> infer_instance
instance fe_all : Fe (fun S Q _ => ∀ k : Int, Q (D.int k) S : M D) := ⟨fun S _ _ _ _ h h' => .inl ⟨.int 0, S, h 0, h' 0⟩⟩
instance {a b : D} : Fe (ixD a b) := by
  unfold ixD
  split
  case h_5 => exact ⟨fun S _ _ _ _ h h' => .inl ⟨.int 0, S, h.2 0, h'.2 0⟩⟩
  all_goals infer_instance
instance {a : D} {l r : Option Int} : Fe (slD a l r) := by unfold slD; split <;> infer_instance
instance : Fe (oNone ρ) := by unfold oNone; infer_instance
instance {a : D} : Fe (asI a) := by unfold asI; split <;> infer_instance
instance {a : Rh → M D} {l r : Rh → M (Option Int)} [∀ ρ, Fe (a ρ)] [∀ ρ, Fe (l ρ)] [∀ ρ, Fe (r ρ)] : Fe (eSl a l r ρ) := by unfold eSl; infer_instance
instance {a : D} : Fe (revLD a) := by unfold revLD; split <;> infer_instance
instance {a : D} : Fe (revSD a) := by unfold revSD; split <;> infer_instance
instance {cs : List Str} {a : List D} : Fe (isiD cs a) := by unfold isiD; split <;> infer_instance
instance {a : List D} : Fe (lenD a) := by unfold lenD; split <;> infer_instance
instance {a : List D} : Fe (intD a) := by unfold intD; split <;> infer_instance
instance {a : List D} : Fe (boolD a) := by unfold boolD; split <;> infer_instance
instance {a : List D} : Fe (maxD a) := by unfold maxD; split <;> infer_instance
instance {a : List D} : Fe (minD a) := by unfold minD; split <;> infer_instance
instance {a : List D} : Fe (sumD a) := by unfold sumD; split <;> infer_instance
instance {a : List D} : Fe (allD a) := by unfold allD; split <;> infer_instance
instance {a : List D} : Fe (anyD a) := by unfold anyD; split <;> infer_instance
instance {a : List D} : Fe (listD a) := by unfold listD; split <;> infer_instance
instance {a : List D} : Fe (tupleD a) := by unfold tupleD; split <;> infer_instance
instance {T : String} {f : D → List D → M D} {o : Rh → M D} {a : Rh → M (List D)} [∀ x ds, Fe (f x ds)] [∀ ρ, Fe (o ρ)] [∀ ρ, Fe (a ρ)] : Fe (eMt T f o a ρ) := by
  unfold eMt
  have : ∀ x : D, Fe (match isOf T x with | true => bind (a ρ) fun ds => f x ds | false => fail) := fun x => by split <;> infer_instance
  infer_instance
instance {C : Str → Str → Prop} {g : Str → Str → D} {d : D} {ds : List D} : Fe (mSS C g d ds) := by unfold mSS; split <;> infer_instance
instance {C : Str → Prop} {g : Str → D} {d : D} {ds : List D} : Fe (mS C g d ds) := by unfold mS; split <;> infer_instance
instance {d : D} {ds : List D} : Fe (splitD d ds) := by unfold splitD; split <;> infer_instance
instance {d : D} {ds : List D} : Fe (partD d ds) := by unfold partD; split <;> infer_instance
instance {d : D} {ds : List D} : Fe (joinD d ds) := by unfold joinD; split <;> (try split) <;> infer_instance
instance {d : D} {ds : List D} : Fe (indexD d ds) := by unfold indexD; split <;> infer_instance
instance {a b : D} : Fe (catM a b) := by unfold catM; split <;> infer_instance
instance {a b : Rh → M D} [∀ ρ, Fe (a ρ)] [∀ ρ, Fe (b ρ)] : Fe (aCat a b ρ) := by unfold aCat; infer_instance
instance {d : D} {ds : List D} : Fe (lcountD d ds) := by unfold lcountD; split <;> infer_instance
instance {d : D} {ds : List D} : Fe (lindexD d ds) := by unfold lindexD; split <;> infer_instance
instance {c : Int} {d : D} : Fe (dct1 c d) := by unfold dct1; split <;> infer_instance
instance {d : D} {ds : List D} : Fe (bitsD d ds) := by unfold bitsD; split <;> infer_instance
instance {ds : List D} : Fe (listE ds) := by unfold listE; split <;> infer_instance
instance {ds : List D} : Fe (lrgD ds) := by unfold lrgD; split <;> infer_instance
instance {d : D} {ds : List D} : Fe (toBD d ds) := by unfold toBD; split <;> infer_instance
instance {ds : List D} : Fe (fromBD ds) := by unfold fromBD; split <;> infer_instance
instance {d : D} : Fe (asStr d) := by unfold asStr; split <;> infer_instance
instance {d : D} : Fe (notB d) := by unfold notB; split <;> infer_instance
instance {n : Bool} {d : D} : Fe (inB n d) := by unfold inB; split <;> infer_instance
instance {d : D} : Fe (scal1 d) := by unfold scal1; split <;> infer_instance
instance {F : Nat → Str} {d : D} : Fe (hexD F d) := by unfold hexD; split <;> infer_instance
class FeT (tbl : Fns) : Prop where
  ok : ∀ c F, tbl.lookup c = some F → ∀ ds, Fe (F ds)
instance : FeT [] := ⟨fun _ _ h => by cases h⟩
instance {c : Str} {F : List D → M D} {r : Fns} [h : ∀ ds, Fe (F ds)] [hr : FeT r] : FeT ((c, F) :: r) := ⟨fun c' F' e ds => by
  rw [List.lookup_cons] at e
  split at e
  · cases e; exact h ds
  · exact hr.ok _ _ e ds⟩
class FeA (tbl : List (Str × Atr)) : Prop where
  ok : ∀ c F, tbl.lookup c = some (.prop F) → ∀ ds, Fe (F ds)
instance : FeA [] := ⟨fun _ _ h => by cases h⟩
instance {c : Str} {r : List (Str × Atr)} [hr : FeA r] : FeA ((c, .fld) :: r) := ⟨fun c' F' e ds => by
  rw [List.lookup_cons] at e
  split at e
  · cases e
  · exact hr.ok _ _ e ds⟩
instance {c : Str} {d : D} {r : List (Str × Atr)} [hr : FeA r] : FeA ((c, .con d) :: r) := ⟨fun c' F' e ds => by
  rw [List.lookup_cons] at e
  split at e
  · cases e
  · exact hr.ok _ _ e ds⟩
instance {c : Str} {F : List D → M D} {r : List (Str × Atr)} [h : ∀ ds, Fe (F ds)] [hr : FeA r] : FeA ((c, .prop F) :: r) := ⟨fun c' F' e ds => by
  rw [List.lookup_cons] at e
  split at e
  · cases e; exact h ds
  · exact hr.ok _ _ e ds⟩
instance {tbl : List (Str × Atr)} {f : Str} {x : D} [h : FeA tbl] : Fe (atrD tbl f x) := by
  unfold atrD
  split
  · split
    · infer_instance
    · next e => have := h.ok _ _ e; infer_instance
    · split <;> infer_instance
    · infer_instance
  · split <;> infer_instance
  · infer_instance
instance {tbl : Fns} {ds : List D} [h : FeT tbl] : Fe (strD tbl ds) := by
  unfold strD
  split
  · infer_instance
  · split
    · next e => have := h.ok _ _ e; infer_instance
    · infer_instance
  · infer_instance
instance {tbl : Fns} {d : D} [h : FeT tbl] : Fe (fmtD tbl d) := by
  unfold fmtD
  split
  · infer_instance
  · infer_instance
  · split
    · next e => have := h.ok _ _ e; infer_instance
    · infer_instance
  · infer_instance
theorem mthF_ok {tbl : Fns} {m : Str} {x : D} {F : List D → M D} [h : FeT tbl] (e : mthF tbl m x = some F) : ∀ ds, Fe (F ds) := by
  unfold mthF at e
  split at e
  · split at e
    · exact h.ok _ _ e
    · cases e
  · cases e
instance {tbl : Fns} {m : Str} {o : Rh → M D} {a : Rh → M (List D)} [h : FeT tbl] [∀ ρ, Fe (o ρ)] [∀ ρ, Fe (a ρ)] : Fe (eMth tbl m o a ρ) := by
  unfold eMth
  have : ∀ x : D, Fe (match mthF tbl m x with | some F => bind (a ρ) fun ds => F (x :: ds) | none => fail) := fun x => by
    split
    · next e => have := mthF_ok e; infer_instance
    · infer_instance
  infer_instance
instance {tbl : Fns} {m : Str} {nk : Nat} {gD : List D → List D → List D} {o : Rh → M D} {kk : Rh → M (List D)} [h : FeT tbl] [∀ ρ, Fe (o ρ)] [∀ ρ, Fe (kk ρ)] : Fe (eMthK tbl m nk gD o kk ρ) := by
  unfold eMthK
  have : ∀ x : D, Fe (match mthF tbl m x with | some F => bind (kk ρ) fun es => need (es.length = nk) (F (gD [x] es)) | none => fail) := fun x => by
    split
    · next e => have := mthF_ok e; infer_instance
    · infer_instance
  infer_instance
instance {tbl : Fns} {cs : List Str} {base : D → D → M D} {a b : D} [h : FeT tbl] [∀ x y, Fe (base x y)] : Fe (ownOp tbl cs base a b) := by
  unfold ownOp
  split
  · split
    · next e _ _ => have := h.ok _ _ e; infer_instance
    · infer_instance
  · infer_instance
instance {tbl : Fns} {cs : List Str} {base : D → D → M D} {a b : D} [h : FeT tbl] [∀ x y, Fe (base x y)] : Fe (ownBin tbl cs base a b) := by
  unfold ownBin
  split
  · split
    · next e _ =>
      have := h.ok _ _ e
      split
      · infer_instance
      · split <;> infer_instance
    · infer_instance
  · infer_instance
instance {tbl : Fns} {cs : List Str} {base : D → D → M D} {a b : D} [h : FeT tbl] [∀ x y, Fe (base x y)] : Fe (ownNe tbl cs base a b) := by
  unfold ownNe
  split
  · split
    · next e _ _ => have := h.ok _ _ e; infer_instance
    · infer_instance
  · infer_instance
instance {tbl : Fns} {n : Bool} {base : D → D → M D} {a b : D} [h : FeT tbl] [∀ x y, Fe (base x y)] : Fe (ownIn tbl n base a b) := by
  unfold ownIn
  split
  · split
    · next e => have := h.ok _ _ e; infer_instance
    · infer_instance
  · infer_instance
instance {tbl : Fns} {base : D → D → M D} {a b : D} [h : FeT tbl] [∀ x y, Fe (base x y)] : Fe (ownIx tbl base a b) := by
  unfold ownIx
  split
  · split
    · next e => have := h.ok _ _ e; infer_instance
    · infer_instance
  · infer_instance
class FeL (ms : List (Rh → M D)) : Prop where
  ok : ∀ m ∈ ms, ∀ ρ, Fe (m ρ)
instance : FeL [] := ⟨fun _ h => by cases h⟩
instance {m : Rh → M D} {r : List (Rh → M D)} [h : ∀ ρ, Fe (m ρ)] [hr : FeL r] : FeL (m :: r) := ⟨fun m' e => by
  rcases List.mem_cons.mp e with rfl | e
  · exact h
  · exact hr.ok _ e⟩
theorem fe_js : ∀ {ms : List (Rh → M D)} [FeL ms] {acc : Str}, Fe (eJs ms acc ρ)
  | [], _, _ => by unfold eJs; infer_instance
  | m :: r, h, acc => by
    unfold eJs
    have hm : Fe (m ρ) := h.ok m (List.mem_cons_self ..) ρ
    have : FeL r := ⟨fun x hx => h.ok x (List.mem_cons_of_mem _ hx)⟩
    have : ∀ x : D, Fe (match x with | .str y => need ((acc ++ y).length ≤ sizeLine) (eJs r (acc ++ y) ρ) | _ => fail) := fun x => by
      split
      · have := fe_js (ms := r) (acc := acc ++ ‹Str›); infer_instance
      · infer_instance
    infer_instance
instance {ms : List (Rh → M D)} [FeL ms] {acc : Str} : Fe (eJs ms acc ρ) := fe_js
instance {c : Str} {Fi : List D → M (List Str × List D)} {ds : List D} [∀ ds, Fe (Fi ds)] : Fe (clsF c Fi ds) := by unfold clsF; infer_instance
instance {n m : Nat} {gD : List D → List D → List D} {F : List D → M D} {a kk : Rh → M (List D)} [∀ ds, Fe (F ds)] [∀ ρ, Fe (a ρ)] [∀ ρ, Fe (kk ρ)] : Fe (eCK n m gD F a kk ρ) := by unfold eCK; infer_instance
instance {i : Nat} {c f : Str} : Fe (rdI i c f ρ) := by unfold rdI; split <;> infer_instance
instance {i : Nat} {m : Rh → M D} [∀ ρ, Fe (m ρ)] : Fe (eLend i m ρ) := by unfold eLend; split <;> infer_instance
instance {i : Nat} {m : Rh → M D} [∀ ρ, Fe (m ρ)] : Fe (eIxO i m ρ) := by unfold eIxO; split <;> infer_instance
instance {cs : List Str} {i : Nat} {f : Str} : Fe (exF cs i f ρ) := by unfold exF; split <;> (try split) <;> infer_instance
instance {xs : List Str} {i : Nat} {m : Rh → M D} [∀ ρ, Fe (m ρ)] : Fe (eIsX xs i m ρ) := by unfold eIsX; split <;> infer_instance
instance {i : Nat} : FeG (gN i) := ⟨fun _ _ _ _ h h' => ⟨_, h, h'⟩⟩
instance : FeGs gsNil := ⟨fun ds ρ k k' h h' => by
  cases ds with
  | nil => exact ⟨_, h, h'⟩
  | cons _ _ => exact h.elim⟩
instance {t : Tg} {u : Tgs} [ht : FeG t] [hu : FeGs u] : FeGs (gsCons t u) := ⟨fun ds ρ k k' h h' => by
  cases ds with
  | nil => exact h.elim
  | cons d r =>
    obtain ⟨ρ', x, y⟩ := ht.two _ _ _ _ h h'
    exact hu.two _ _ _ _ x y⟩
instance {t : Tgs} [ht : FeGs t] : FeG (gT t) := ⟨fun d ρ k k' h h' => by
  cases d with
  | tup ds => exact ht.two _ _ _ _ h h'
  | _ => exact h.elim⟩
theorem fe_comp {g : Tg} {t : Rh → M Bool} {e : Rh → M D} [hg : FeG g] [ht : ∀ ρ, Fe (t ρ)] [he : ∀ ρ, Fe (e ρ)] : ∀ ds : List D, Fe (compL g t e ds ρ)
  | [] => by unfold compL; infer_instance
  | d :: ds => ⟨fun S Q E Q' E' h h' => by
    unfold compL at h h'
    obtain ⟨ρ', x, y⟩ := hg.two _ _ _ _ h h'
    rcases (ht ρ').two _ _ _ _ _ x y with ⟨b, S1, x, y⟩ | z
    · cases b
      · exact (fe_comp ds).two _ _ _ _ _ (x.2 rfl) (y.2 rfl)
      · rcases (he ρ').two _ _ _ _ _ (x.1 rfl) (y.1 rfl) with ⟨a, S2, x, y⟩ | z
        · rcases (fe_comp ds).two _ _ _ _ _ x y with ⟨b, S3, x, y⟩ | z
          · exact .inl ⟨_, _, x, y⟩
          · exact .inr z
        · exact .inr z
    · exact .inr z⟩
instance {g : Tg} {t : Rh → M Bool} {e : Rh → M D} {ds : List D} [FeG g] [∀ ρ, Fe (t ρ)] [∀ ρ, Fe (e ρ)] : Fe (compL g t e ds ρ) := fe_comp ds
instance {it : Rh → M (List D)} {vs : List Nat} {g : Tg} {t : Rh → M Bool} {e : Rh → M D} [∀ ρ, Fe (it ρ)] [FeG g] [∀ ρ, Fe (t ρ)] [∀ ρ, Fe (e ρ)] : Fe (eLc it vs g t e ρ) := by unfold eLc; infer_instance
instance : FeS sNil := ⟨fun _ _ _ _ h h' => .inl ⟨_, _, h, h'⟩⟩
instance : FeS sNo := ⟨fun _ _ _ _ h _ => h.elim⟩
instance : FeS sBrk := ⟨fun _ _ _ _ h h' => .inr (.inr (.inl ⟨_, _, h, h'⟩))⟩
instance : FeS sCont := ⟨fun _ _ _ _ h h' => .inr (.inr (.inr (.inl ⟨_, _, h, h'⟩)))⟩
instance : FeS sRetN := ⟨fun _ _ _ _ h h' => .inr (.inl ⟨_, _, h, h'⟩)⟩
instance {a b : Sm} [ha : FeS a] [hb : FeS b] : FeS (sSeq a b) := ⟨fun ρ S D D' h h' => by
  rcases ha.two _ _ _ _ h h' with ⟨ρ', S', x, y⟩ | z
  · exact hb.two _ _ _ _ x y
  · exact .inr z⟩
instance {e : Rh → M D} [he : ∀ ρ, Fe (e ρ)] : FeS (sExpr e) := ⟨fun ρ S D D' h h' => by
  rcases (he ρ).two _ _ _ _ _ h h' with ⟨a, S', x, y⟩ | ⟨a, S', x, y⟩
  · exact .inl ⟨_, _, x, y⟩
  · exact .inr (.inr (.inr (.inr ⟨_, _, _, x, y⟩)))⟩
instance {e : Rh → M D} [he : ∀ ρ, Fe (e ρ)] : FeS (sRet e) := ⟨fun ρ S D D' h h' => by
  rcases (he ρ).two _ _ _ _ _ h h' with ⟨a, S', x, y⟩ | ⟨a, S', x, y⟩
  · exact .inr (.inl ⟨_, _, x, y⟩)
  · exact .inr (.inr (.inr (.inr ⟨_, _, _, x, y⟩)))⟩
instance {c : Rh → M Bool} {a b : Sm} [hc : ∀ ρ, Fe (c ρ)] [ha : FeS a] [hb : FeS b] : FeS (sIf c a b) := ⟨fun ρ S D D' h h' => by
  rcases (hc ρ).two _ _ _ _ _ h h' with ⟨k, S', x, y⟩ | ⟨k, S', x, y⟩
  · cases k
    · exact hb.two _ _ _ _ (x.2 rfl) (y.2 rfl)
    · exact ha.two _ _ _ _ (x.1 rfl) (y.1 rfl)
  · exact .inr (.inr (.inr (.inr ⟨_, _, _, x, y⟩)))⟩
instance {g : Tg} {e : Rh → M D} [hg : FeG g] [he : ∀ ρ, Fe (e ρ)] : FeS (sSet g e) := ⟨fun ρ S D D' h h' => by
  rcases (he ρ).two _ _ _ _ _ h h' with ⟨a, S', x, y⟩ | ⟨a, S', x, y⟩
  · obtain ⟨ρ', x, y⟩ := hg.two _ _ _ _ x y
    exact .inl ⟨_, _, x, y⟩
  · exact .inr (.inr (.inr (.inr ⟨_, _, _, x, y⟩)))⟩
instance {i j : Nat} {m : Rh → M (List D)} [hm : ∀ ρ, Fe (m ρ)] : FeS (sPar i j m) := ⟨fun ρ S D D' h h' => by
  rcases (hm ρ).two _ _ _ _ _ h h' with ⟨ds, S', x, y⟩ | ⟨a, S', x, y⟩
  · match ds, x, y with
    | [a, b], x, y => exact .inl ⟨_, _, x, y⟩
    | [], x, _ => exact x.elim
    | [_], x, _ => exact x.elim
    | _ :: _ :: _ :: _, x, _ => exact x.elim
  · exact .inr (.inr (.inr (.inr ⟨_, _, _, x, y⟩)))⟩
instance {i : Nat} {f : D → D → M D} {e : Rh → M D} [hf : ∀ x y, Fe (f x y)] [he : ∀ ρ, Fe (e ρ)] : FeS (sAug i f e) := ⟨fun ρ S D D' h h' => by
  have hm : Fe (bind (rd i ρ) (fun x => bind (e ρ) fun y => f x y)) := inferInstance
  rcases hm.two _ _ _ _ _ h h' with ⟨a, S', x, y⟩ | ⟨a, S', x, y⟩
  · exact .inl ⟨_, _, x, y⟩
  · exact .inr (.inr (.inr (.inr ⟨_, _, _, x, y⟩)))⟩
instance {i : Nat} {f : D → D → M D} {e b : Rh → M D} {ma mb : Sm} [hf : ∀ x y, Fe (f x y)] [he : ∀ ρ, Fe (e ρ)] [hb : ∀ ρ, Fe (b ρ)] [ha : FeS ma] [hc : FeS mb] : FeS (sIfW i f e b ma mb) := ⟨fun ρ S D D' h h' => by
  rcases (he ρ).two _ _ _ _ _ h h' with ⟨d, S', x, y⟩ | ⟨a, S', x, y⟩
  · have hm : Fe (bind (b (ρ.set i (.sh d))) (fun y => bind (f d y) asB)) := inferInstance
    rcases hm.two _ _ _ _ _ x y with ⟨k, S', x, y⟩ | ⟨a, S', x, y⟩
    · cases k
      · exact hc.two _ _ _ _ (x.2 rfl) (y.2 rfl)
      · exact ha.two _ _ _ _ (x.1 rfl) (y.1 rfl)
    · exact .inr (.inr (.inr (.inr ⟨_, _, _, x, y⟩)))
  · exact .inr (.inr (.inr (.inr ⟨_, _, _, x, y⟩)))⟩
theorem fe_for {g : Tg} {b : Sm} [hg : FeG g] [hb : FeS b] : ∀ ds : List D, FeS (forL g b ds)
  | [] => by unfold forL; infer_instance
  | d :: ds => ⟨fun ρ S D D' h h' => by
    unfold forL at h h'
    obtain ⟨ρ', x, y⟩ := hg.two _ _ _ _ h h'
    rcases hb.two _ _ _ _ x y with ⟨ρ2, S2, x, y⟩ | z | ⟨ρ2, S2, x, y⟩ | ⟨ρ2, S2, x, y⟩ | z
    · exact (fe_for ds).two _ _ _ _ x y
    · exact .inr (.inl z)
    · exact .inl ⟨_, _, x, y⟩
    · exact (fe_for ds).two _ _ _ _ x y
    · exact .inr (.inr (.inr (.inr z)))⟩
instance {vs : List Nat} {b : Sm} [hb : FeS b] : FeS (sWip vs b) := ⟨fun ρ S D D' h h' => by
  rcases hb.two _ _ _ _ h h' with ⟨_, _, x, y⟩ | z | z | ⟨_, _, x, y⟩ | z
  · exact .inl ⟨_, _, x, y⟩
  · exact .inr (.inl z)
  · exact .inr (.inr (.inl z))
  · exact .inr (.inr (.inr (.inl ⟨_, _, x, y⟩)))
  · exact .inr (.inr (.inr (.inr z)))⟩
instance {it : Rh → M (List D)} {g : Tg} {b : Sm} [hi : ∀ ρ, Fe (it ρ)] [FeG g] [FeS b] : FeS (sFor it g b) := ⟨fun ρ S D D' h h' => by
  rcases (hi ρ).two _ _ _ _ _ h h' with ⟨ds, S', x, y⟩ | ⟨a, S', x, y⟩
  · exact (fe_for ds).two _ _ _ _ x y
  · exact .inr (.inr (.inr (.inr ⟨_, _, _, x, y⟩)))⟩
theorem fe_whl {c : Rh → M Bool} {b : Sm} [hc : ∀ ρ, Fe (c ρ)] [hb : FeS b] : ∀ (n m : Nat) (ρ : Rh) (S : Sv) (D D' : EndsD), whl c b n ρ S D → whl c b m ρ S D' → (∃ ρ' S', D.nx ρ' S' ∧ D'.nx ρ' S') ∨ (∃ d S', D.rt d S' ∧ D'.rt d S') ∨ (∃ ρ' S', D.bk ρ' S' ∧ D'.bk ρ' S') ∨ (∃ ρ' S', D.ct ρ' S' ∧ D'.ct ρ' S') ∨ (∃ x ρ' S', D.ex x ρ' S' ∧ D'.ex x ρ' S')
  | 0, _, _, _, _, _, h, _ => by unfold whl at h; exact h.elim
  | _ + 1, 0, _, _, _, _, _, h => by unfold whl at h; exact h.elim
  | n + 1, m + 1, ρ, S, D, D', h, h' => by
    unfold whl at h h'
    rcases (hc ρ).two _ _ _ _ _ h h' with ⟨k, S', x, y⟩ | ⟨a, S', x, y⟩
    · cases k
      · exact .inl ⟨_, _, x.2 rfl, y.2 rfl⟩
      · rcases hb.two _ _ _ _ (x.1 rfl) (y.1 rfl) with ⟨ρ2, S2, x, y⟩ | z | ⟨ρ2, S2, x, y⟩ | ⟨ρ2, S2, x, y⟩ | z
        · exact fe_whl n m _ _ _ _ x y
        · exact .inr (.inl z)
        · exact .inl ⟨_, _, x, y⟩
        · exact fe_whl n m _ _ _ _ x y
        · exact .inr (.inr (.inr (.inr z)))
    · exact .inr (.inr (.inr (.inr ⟨_, _, _, x, y⟩)))
instance {c : Rh → M Bool} {b : Sm} [∀ ρ, Fe (c ρ)] [FeS b] : FeS (sWhile c b) := ⟨fun ρ S D D' h h' => by
  obtain ⟨n, h⟩ := h
  obtain ⟨m, h'⟩ := h'
  exact fe_whl n m ρ S D D' h h'⟩
instance {i : Nat} {c f : Str} {e : Rh → M D} [he : ∀ ρ, Fe (e ρ)] : FeS (sFldI i c f e) := ⟨fun ρ S D D' h h' => by
  rcases (he ρ).two _ _ _ _ _ h h' with ⟨d, S', x, y⟩ | ⟨a, S', x, y⟩
  · cases q : ρ[i]? with
    | none => rw [q] at x; exact x.elim
    | some s =>
      rw [q] at x y
      cases s with
      | oi c' ns ds => exact .inl ⟨_, _, x.2.2.2, y.2.2.2⟩
      | _ => exact x.elim
  · exact .inr (.inr (.inr (.inr ⟨_, _, _, x, y⟩)))⟩
instance {i : Nat} {m : Rh → M (List D)} [hm : ∀ ρ, Fe (m ρ)] : FeS (sOwn i m) := ⟨fun ρ S D D' h h' => by
  rcases (hm ρ).two _ _ _ _ _ h h' with ⟨ds, S', x, y⟩ | ⟨a, S', x, y⟩
  · exact .inl ⟨_, _, x.2, y.2⟩
  · exact .inr (.inr (.inr (.inr ⟨_, _, _, x, y⟩)))⟩
instance {i : Nat} {e : Rh → M D} [he : ∀ ρ, Fe (e ρ)] : FeS (sApp i e) := ⟨fun ρ S D D' h h' => by
  unfold sApp at h h'
  cases q : ρ[i]? with
  | none => rw [q] at h; exact h.elim
  | some s =>
    rw [q] at h h'
    cases s with
    | ol ds =>
      rcases (he ρ).two _ _ _ _ _ h h' with ⟨d, S', x, y⟩ | ⟨a, S', x, y⟩
      · exact .inl ⟨_, _, x.2, y.2⟩
      · exact .inr (.inr (.inr (.inr ⟨_, _, _, x, y⟩)))
    | _ => exact h.elim⟩
instance {i : Nat} {m : Sm} [hm : FeS m] : FeS (sFrz i m) := ⟨fun ρ S D D' h h' => by
  unfold sFrz at h h'
  cases q : ρ[i]? with
  | none => rw [q] at h h'; exact hm.two _ _ _ _ h h'
  | some s =>
    rw [q] at h h'
    cases s <;> exact hm.two _ _ _ _ h h'⟩
instance {o i e : Rh → M D} [ho : ∀ ρ, Fe (o ρ)] [hi : ∀ ρ, Fe (i ρ)] [he : ∀ ρ, Fe (e ρ)] : FeS (sSrc o i e) := ⟨fun ρ S D D' h h' => by
  have E : ∀ {A : Prop} {D D' : EndsD}, (∃ x S', D.ex x ρ S' ∧ D'.ex x ρ S') → A ∨ (∃ d S', D.rt d S' ∧ D'.rt d S') ∨ (∃ ρ' S', D.bk ρ' S' ∧ D'.bk ρ' S') ∨ (∃ ρ' S', D.ct ρ' S' ∧ D'.ct ρ' S') ∨ (∃ x ρ' S', D.ex x ρ' S' ∧ D'.ex x ρ' S') := fun ⟨_, _, x, y⟩ => .inr (.inr (.inr (.inr ⟨_, _, _, x, y⟩)))
  rcases (he ρ).two _ _ _ _ _ h h' with ⟨v, S1, x, y⟩ | z
  · rcases (ho ρ).two _ _ _ _ _ x y with ⟨a, S2, x, y⟩ | z
    · rcases (hi ρ).two _ _ _ _ _ x y with ⟨b, S3, x, y⟩ | z
      · cases a <;> cases b <;> cases v <;> first | exact .inl ⟨_, _, x.2, y.2⟩ | exact False.elim x
      · exact E z
    · exact E z
  · exact E z⟩
instance {m : Rh → M Xn} [hm : ∀ ρ, Fe (m ρ)] : FeS (sRaise m) := ⟨fun ρ S D D' h h' => by
  rcases (hm ρ).two _ _ _ _ _ h h' with ⟨a, S', x, y⟩ | ⟨a, S', x, y⟩
  · exact .inr (.inr (.inr (.inr ⟨_, _, _, x, y⟩)))
  · exact .inr (.inr (.inr (.inr ⟨_, _, _, x, y⟩)))⟩
class FeH (hs : List Hd) : Prop where
  ok : ∀ h ∈ hs, FeS h.m
instance : FeH [] := ⟨fun _ h => by cases h⟩
instance {C : Str} {o : Option Nat} {m : Sm} {r : List Hd} [h : FeS m] [hr : FeH r] : FeH (⟨C, o, m⟩ :: r) := ⟨fun x e => by
  rcases List.mem_cons.mp e with rfl | e
  · exact h
  · exact hr.ok _ e⟩
theorem fe_hdl {xs : List Str} {x : Xn} {ρ : Rh} {S : Sv} {D D' : EndsD} : ∀ {hs : List Hd}, (∀ h ∈ hs, FeS h.m) → hdl xs x ρ S D hs → hdl xs x ρ S D' hs → (∃ ρ' S', D.nx ρ' S' ∧ D'.nx ρ' S') ∨ (∃ d S', D.rt d S' ∧ D'.rt d S') ∨ (∃ ρ' S', D.bk ρ' S' ∧ D'.bk ρ' S') ∨ (∃ ρ' S', D.ct ρ' S' ∧ D'.ct ρ' S') ∨ (∃ x ρ' S', D.ex x ρ' S' ∧ D'.ex x ρ' S')
  | [], _, h, h' => .inr (.inr (.inr (.inr ⟨_, _, _, h, h'⟩)))
  | hd :: r, ok, h, h' => by
    unfold hdl at h h'
    split at h
    · next e =>
      rw [e] at h'
      rcases (ok hd (List.mem_cons_self ..)).two _ _ _ _ h h' with ⟨ρ2, S2, x, y⟩ | z | ⟨ρ2, S2, x, y⟩ | ⟨ρ2, S2, x, y⟩ | ⟨_, _, _, x, _⟩
      · exact .inl ⟨_, _, x, y⟩
      · exact .inr (.inl z)
      · exact .inr (.inr (.inl ⟨_, _, x, y⟩))
      · exact .inr (.inr (.inr (.inl ⟨_, _, x, y⟩)))
      · exact x.elim
    · next e =>
      rw [e] at h'
      exact fe_hdl (fun k hk => ok k (List.mem_cons_of_mem _ hk)) h h'
    · exact h.elim
instance {xs : List Str} {b : Sm} {hs : List Hd} [hb : FeS b] [hh : FeH hs] : FeS (sTry xs b hs) := ⟨fun ρ S D D' h h' => by
  rcases hb.two _ _ _ _ h h' with z | z | z | z | ⟨x, ρ', S', x, y⟩
  · exact .inl z
  · exact .inr (.inl z)
  · exact .inr (.inr (.inl z))
  · exact .inr (.inr (.inr (.inl z)))
  · exact fe_hdl hh.ok x y⟩
instance {n N : Nat} {code : Sm} {ds : List D} [hc : FeS code] : Fe (mkF n N code ds) := ⟨fun S Q E Q' E' h h' => by
  unfold mkF at h h'
  split at h
  · next e =>
    rw [e] at h'
    rcases hc.two _ _ _ _ h h' with ⟨_, _, x, y⟩ | z | ⟨_, _, x, _⟩ | ⟨_, _, x, _⟩ | ⟨_, _, _, x, y⟩
    · exact .inl ⟨_, _, x, y⟩
    · exact .inl z
    · exact x.elim
    · exact x.elim
    · exact .inr ⟨_, _, x, y⟩
  · exact h.elim⟩
instance {c : Str} {n N : Nat} {code : Sm} {ds : List D} [hc : FeS code] : Fe (mkI c n N code ds) := ⟨fun S Q E Q' E' h h' => by
  unfold mkI at h h'
  split at h
  · next e =>
    rw [e] at h'
    rcases hc.two _ _ _ _ h h' with ⟨ρ', _, x, y⟩ | ⟨_, _, x, _⟩ | ⟨_, _, x, _⟩ | ⟨_, _, x, _⟩ | ⟨_, _, _, x, y⟩
    · cases ρ' with
      | nil => exact x.elim
      | cons s r =>
        cases s with
        | oi c' ns ds => exact .inl ⟨_, _, x.2, y.2⟩
        | _ => exact x.elim
    · exact x.elim
    · exact x.elim
    · exact x.elim
    · exact .inr ⟨_, _, x, y⟩
  · exact h.elim⟩
instance {m : M α} [hm : Fe m] {o : Option Sl} : Fe (fnM m o) := ⟨fun _ _ _ _ _ h h' => hm.two _ _ _ _ _ (fnM_is h).2 (fnM_is h').2⟩
instance {i : Nat} {m : M D} {ρ : Rh} [Fe m] : Fe (actM i m ρ) := by unfold actM; infer_instance
instance {i : Nat} {ρ : Rh} : Fe (actV i ρ) := by unfold actV; infer_instance
instance {x q : Str} : Fe (tabM x q) := ⟨fun S _ _ _ _ h h' => .inl ⟨[], S, h.2, h'.2⟩⟩
instance {n N : Nat} {code : Sm} {ds : List D} [hc : FeS code] : Fe (mkG n N code ds) := ⟨fun S Q E Q' E' h h' => by
  unfold mkG at h h'
  split at h
  · next e =>
    rw [e] at h'
    rcases hc.two _ _ _ _ h h' with ⟨_, _, x, y⟩ | z | ⟨_, _, x, _⟩ | ⟨_, _, x, _⟩ | ⟨_, _, _, x, y⟩
    · exact .inl ⟨_, _, x, y⟩
    · exact .inl z
    · exact x.elim
    · exact x.elim
    · exact .inr ⟨_, _, x, y⟩
  · exact h.elim⟩
end


end Dn

set_option Elab.async false
set_option linter.all false
set_option maxRecDepth 100000
set_option maxHeartbeats 4000000
set_option pp.deepTerms false
set_option pp.deepTerms.threshold 5
set_option pp.maxSteps 1500

namespace Dn
open PySem PySem.W PySem.Spec PyProof.Rows L2 TL Bits An
def Kt {α : Type} (_ : α → Sv → Prop) (_ : Xn → Sv → Prop) : Type := M α × Sv
def kt {α : Type} {Q : α → Sv → Prop} {E : Xn → Sv → Prop} (m : M α) (S : Sv) : Kt Q E := (m, S)
def Rn {α : Type} (Q : α → Sv → Prop) (E : Xn → Sv → Prop) (c : Kt Q E) : Prop := c.1 c.2 Q E
def Ks (_ : EndsD) : Type := Sm × Rh × Sv
def ks {e : EndsD} (m : Sm) (ρ : Rh) (S : Sv) : Ks e := (m, ρ, S)
def Rs (e : EndsD) (c : Ks e) : Prop := c.1 c.2.1 c.2.2 e
def Bf (_ _ : Prop) : Type := Bool
def bf {p q : Prop} (c : Bool) : Bf p q := c
def IteP (p q : Prop) (c : Bf p q) : Prop := iteP c p q
def Kl (_ : EndsD) (_ : Tg) (_ : Sm) (_ : Rh) (_ : Sv) : Type := List D
def kl {e : EndsD} {g : Tg} {b : Sm} {ρ : Rh} {S : Sv} (ds : List D) : Kl e g b ρ S := ds
def Lp (e : EndsD) (g : Tg) (b : Sm) (ρ : Rh) (S : Sv) (ds : Kl e g b ρ S) : Prop := forL g b ds ρ S e
def Kc (_ : List D → Sv → Prop) (_ : Xn → Sv → Prop) (_ : Tg) (_ : Rh → M Bool) (_ : Rh → M D) (_ : Rh) (_ : Sv) : Type := List D
def kc {Q : List D → Sv → Prop} {E : Xn → Sv → Prop} {g : Tg} {t : Rh → M Bool} {e : Rh → M D} {ρ : Rh} {S : Sv} (ds : List D) : Kc Q E g t e ρ S := ds
def Lc (Q : List D → Sv → Prop) (E : Xn → Sv → Prop) (g : Tg) (t : Rh → M Bool) (e : Rh → M D) (ρ : Rh) (S : Sv) (ds : Kc Q E g t e ρ S) : Prop := compL g t e ds ρ S Q E
section
variable {α : Type} {S : Sv} {ρ : Rh} {Q : α → Sv → Prop} {E : Xn → Sv → Prop} {p q r : Prop} {c : Bool}
theorem rn {m : M α} (h : m S Q E) : Rn Q E (kt m S) := h
theorem rn_out {m : M α} (h : Rn Q E (kt m S)) : m S Q E := h
theorem rs {m : Sm} {e : EndsD} (h : m ρ S e) : Rs e (ks m ρ S) := h
theorem iteD {c : Prop} [Decidable c] (h1 : c → p) (h2 : ¬ c → q) : IteP p q (bf (decide c)) := ⟨fun h => h1 (of_decide_eq_true h), fun h => h2 (of_decide_eq_false h)⟩
theorem iteB (h1 : c = true → p) (h2 : c = false → q) : IteP p q (bf c) := ⟨h1, h2⟩
theorem eqD {c : Prop} [Decidable c] (h1 : c → p = r) (h2 : ¬ c → q = r) : IteP p q (bf (decide c)) = r := by
  by_cases h : c
  · rw [← h1 h]; exact propext ⟨fun z => z.1 (decide_eq_true h), fun z => ⟨fun _ => z, fun z => absurd h (of_decide_eq_false z)⟩⟩
  · rw [← h2 h]; exact propext ⟨fun z => z.2 (decide_eq_false h), fun z => ⟨fun z => absurd (of_decide_eq_true z) h, fun _ => z⟩⟩
theorem eqB' (h1 : c = true → p = r) (h2 : c = false → q = r) : IteP p q (bf c) = r := by
  cases c
  · rw [← h2 rfl]; exact propext ⟨fun z => z.2 rfl, fun z => ⟨fun z => (by cases z), fun _ => z⟩⟩
  · rw [← h1 rfl]; exact propext ⟨fun z => z.1 rfl, fun z => ⟨fun _ => z, fun z => (by cases z)⟩⟩
theorem fe_rt {m : M α} [h : Fe m] {v : α} (q : ∀ (Q : α → Sv → Prop) E, Q v S → Rn Q E (kt m S)) : Rn Q E (kt m S) = Q v S := fe_ret q Q E
end


def olS (i : Nat) (ds : List D) (ρ : Rh) (k : Rh → Prop) : Prop := k (ρ.set i (.ol ds))
def unS (i : Nat) (ρ : Rh) (k : Rh → Prop) : Prop := k (ρ.set i .un)
def exS (i : Nat) (x : Xn) (ρ : Rh) (k : Rh → Prop) : Prop := k (ρ.set i (.ex x))
def olG (i : Nat) (ρ : Rh) (k : List D → Prop) : Prop := match ρ[i]? with
  | some (.ol ds) => k ds
  | _ => False
def exG (i : Nat) (ρ : Rh) (k : Xn → Prop) : Prop := match ρ[i]? with
  | some (.ex x) => k x
  | _ => False
section
variable {S : Sv} {ρ : Rh} {d : D} {ds : List D} {x : Sl} {n : Nat} {k : Rh → Prop} {kd : List D → Prop} {kx : Xn → Prop} {Q : D → Sv → Prop} {E : Xn → Sv → Prop} {m : Sm} {me : Rh → M D} {e : EndsD} {xn : Xn}
theorem q_olS0 : olS 0 ds (x :: ρ) k = k (.ol ds :: ρ) := propext ⟨id, id⟩
theorem q_olSS : olS (n + 1) ds (x :: ρ) k = olS n ds ρ (fun r => k (x :: r)) := propext ⟨id, id⟩
theorem q_unS0 : unS 0 (x :: ρ) k = k (.un :: ρ) := propext ⟨id, id⟩
theorem q_unSS : unS (n + 1) (x :: ρ) k = unS n ρ (fun r => k (x :: r)) := propext ⟨id, id⟩
theorem q_exS0 : exS 0 xn (x :: ρ) k = k (.ex xn :: ρ) := propext ⟨id, id⟩
theorem q_exSS : exS (n + 1) xn (x :: ρ) k = exS n xn ρ (fun r => k (x :: r)) := propext ⟨id, id⟩
theorem q_olG0 : olG 0 (.ol ds :: ρ) kd = kd ds := propext ⟨id, id⟩
theorem q_olGS : olG (n + 1) (x :: ρ) kd = olG n ρ kd := propext ⟨id, id⟩
theorem q_exG0 : exG 0 (.ex xn :: ρ) kx = kx xn := propext ⟨id, id⟩
theorem q_exGS : exG (n + 1) (x :: ρ) kx = exG n ρ kx := propext ⟨id, id⟩
def frzK (i : Nat) (ρ : Rh) (k : Rh → Prop) : Prop := match ρ[i]? with
  | some (.ol ds) => k (ρ.set i (.sh (.lst ds)))
  | _ => k ρ
theorem q_frz {i : Nat} : Rs e (ks (sFrz i m) ρ S) = frzK i ρ fun r => Rs e (ks m r S) := (show sFrz i m ρ S e = frzK i ρ fun r => m r S e from by
  unfold sFrz frzK
  cases ρ[i]? with
  | none => rfl
  | some s => cases s <;> rfl)
theorem q_frzO : frzK 0 (.ol ds :: ρ) k = k (.sh (.lst ds) :: ρ) := propext ⟨id, id⟩
theorem q_frzD : frzK 0 (.sh d :: ρ) k = k (.sh d :: ρ) := propext ⟨id, id⟩
theorem q_frzU : frzK 0 (.un :: ρ) k = k (.un :: ρ) := propext ⟨id, id⟩
theorem q_frzS : frzK (n + 1) (x :: ρ) k = frzK n ρ (fun r => k (x :: r)) := by
  unfold frzK
  simp only [List.getElem?_cons_succ, List.set_cons_succ]
def lendK (i : Nat) (ρ : Rh) (k1 k2 : Rh → Prop) : Prop := match ρ[i]? with
  | some (.ol ds) => k1 (ρ.set i (.sh (.lst ds)))
  | _ => k2 ρ
theorem q_lend {i : Nat} : Rn Q E (kt (eLend i me ρ) S) = lendK i ρ (fun r => Rn (fun d S1 => Rn Q (fun _ _ => False) (kt (scal1 d) S1)) (fun _ _ => False) (kt (me r) S)) (fun r => Rn Q E (kt (me r) S)) := (show eLend i me ρ S Q E = lendK i ρ (fun r => me r S (fun d S1 => scal1 d S1 Q (fun _ _ => False)) (fun _ _ => False)) (fun r => me r S Q E) from by
  unfold eLend lendK
  cases ρ[i]? with
  | none => rfl
  | some s => cases s <;> rfl)
theorem q_lendO {k' : Rh → Prop} : lendK 0 (.ol ds :: ρ) k k' = k (.sh (.lst ds) :: ρ) := propext ⟨id, id⟩
theorem q_lendD {k' : Rh → Prop} : lendK 0 (.sh d :: ρ) k k' = k' (.sh d :: ρ) := propext ⟨id, id⟩
theorem q_lendS {k' : Rh → Prop} : lendK (n + 1) (x :: ρ) k k' = lendK n ρ (fun r => k (x :: r)) (fun r => k' (x :: r)) := by
  unfold lendK
  simp only [List.getElem?_cons_succ, List.set_cons_succ]
theorem q_rd0  : Rn Q E (kt (rd 0 (.sh d :: ρ)) S) = Q d S := propext ⟨id, id⟩
theorem q_gN0 : gN 0 d (x :: ρ) k = k (.sh d :: ρ) := propext ⟨id, id⟩
theorem q_rd1 {x0 : Sl} : Rn Q E (kt (rd 1 (x0 :: .sh d :: ρ)) S) = Q d S := propext ⟨id, id⟩
theorem q_gN1 {x0 : Sl} : gN 1 d (x0 :: x :: ρ) k = k (x0 :: .sh d :: ρ) := propext ⟨id, id⟩
theorem q_rd2 {x0 x1 : Sl} : Rn Q E (kt (rd 2 (x0 :: x1 :: .sh d :: ρ)) S) = Q d S := propext ⟨id, id⟩
theorem q_gN2 {x0 x1 : Sl} : gN 2 d (x0 :: x1 :: x :: ρ) k = k (x0 :: x1 :: .sh d :: ρ) := propext ⟨id, id⟩
theorem q_rd3 {x0 x1 x2 : Sl} : Rn Q E (kt (rd 3 (x0 :: x1 :: x2 :: .sh d :: ρ)) S) = Q d S := propext ⟨id, id⟩
theorem q_gN3 {x0 x1 x2 : Sl} : gN 3 d (x0 :: x1 :: x2 :: x :: ρ) k = k (x0 :: x1 :: x2 :: .sh d :: ρ) := propext ⟨id, id⟩
theorem q_rd4 {x0 x1 x2 x3 : Sl} : Rn Q E (kt (rd 4 (x0 :: x1 :: x2 :: x3 :: .sh d :: ρ)) S) = Q d S := propext ⟨id, id⟩
theorem q_gN4 {x0 x1 x2 x3 : Sl} : gN 4 d (x0 :: x1 :: x2 :: x3 :: x :: ρ) k = k (x0 :: x1 :: x2 :: x3 :: .sh d :: ρ) := propext ⟨id, id⟩
theorem q_rd5 {x0 x1 x2 x3 x4 : Sl} : Rn Q E (kt (rd 5 (x0 :: x1 :: x2 :: x3 :: x4 :: .sh d :: ρ)) S) = Q d S := propext ⟨id, id⟩
theorem q_gN5 {x0 x1 x2 x3 x4 : Sl} : gN 5 d (x0 :: x1 :: x2 :: x3 :: x4 :: x :: ρ) k = k (x0 :: x1 :: x2 :: x3 :: x4 :: .sh d :: ρ) := propext ⟨id, id⟩
theorem q_rd6 {x0 x1 x2 x3 x4 x5 : Sl} : Rn Q E (kt (rd 6 (x0 :: x1 :: x2 :: x3 :: x4 :: x5 :: .sh d :: ρ)) S) = Q d S := propext ⟨id, id⟩
theorem q_gN6 {x0 x1 x2 x3 x4 x5 : Sl} : gN 6 d (x0 :: x1 :: x2 :: x3 :: x4 :: x5 :: x :: ρ) k = k (x0 :: x1 :: x2 :: x3 :: x4 :: x5 :: .sh d :: ρ) := propext ⟨id, id⟩
theorem q_rd7 {x0 x1 x2 x3 x4 x5 x6 : Sl} : Rn Q E (kt (rd 7 (x0 :: x1 :: x2 :: x3 :: x4 :: x5 :: x6 :: .sh d :: ρ)) S) = Q d S := propext ⟨id, id⟩
theorem q_gN7 {x0 x1 x2 x3 x4 x5 x6 : Sl} : gN 7 d (x0 :: x1 :: x2 :: x3 :: x4 :: x5 :: x6 :: x :: ρ) k = k (x0 :: x1 :: x2 :: x3 :: x4 :: x5 :: x6 :: .sh d :: ρ) := propext ⟨id, id⟩
theorem q_rd8 {x0 x1 x2 x3 x4 x5 x6 x7 : Sl} : Rn Q E (kt (rd 8 (x0 :: x1 :: x2 :: x3 :: x4 :: x5 :: x6 :: x7 :: .sh d :: ρ)) S) = Q d S := propext ⟨id, id⟩
theorem q_gN8 {x0 x1 x2 x3 x4 x5 x6 x7 : Sl} : gN 8 d (x0 :: x1 :: x2 :: x3 :: x4 :: x5 :: x6 :: x7 :: x :: ρ) k = k (x0 :: x1 :: x2 :: x3 :: x4 :: x5 :: x6 :: x7 :: .sh d :: ρ) := propext ⟨id, id⟩
theorem q_rd9 {x0 x1 x2 x3 x4 x5 x6 x7 x8 : Sl} : Rn Q E (kt (rd 9 (x0 :: x1 :: x2 :: x3 :: x4 :: x5 :: x6 :: x7 :: x8 :: .sh d :: ρ)) S) = Q d S := propext ⟨id, id⟩
theorem q_gN9 {x0 x1 x2 x3 x4 x5 x6 x7 x8 : Sl} : gN 9 d (x0 :: x1 :: x2 :: x3 :: x4 :: x5 :: x6 :: x7 :: x8 :: x :: ρ) k = k (x0 :: x1 :: x2 :: x3 :: x4 :: x5 :: x6 :: x7 :: x8 :: .sh d :: ρ) := propext ⟨id, id⟩
theorem q_rd10 {x0 x1 x2 x3 x4 x5 x6 x7 x8 x9 : Sl} : Rn Q E (kt (rd 10 (x0 :: x1 :: x2 :: x3 :: x4 :: x5 :: x6 :: x7 :: x8 :: x9 :: .sh d :: ρ)) S) = Q d S := propext ⟨id, id⟩
theorem q_gN10 {x0 x1 x2 x3 x4 x5 x6 x7 x8 x9 : Sl} : gN 10 d (x0 :: x1 :: x2 :: x3 :: x4 :: x5 :: x6 :: x7 :: x8 :: x9 :: x :: ρ) k = k (x0 :: x1 :: x2 :: x3 :: x4 :: x5 :: x6 :: x7 :: x8 :: x9 :: .sh d :: ρ) := propext ⟨id, id⟩
theorem q_rd11 {x0 x1 x2 x3 x4 x5 x6 x7 x8 x9 x10 : Sl} : Rn Q E (kt (rd 11 (x0 :: x1 :: x2 :: x3 :: x4 :: x5 :: x6 :: x7 :: x8 :: x9 :: x10 :: .sh d :: ρ)) S) = Q d S := propext ⟨id, id⟩
theorem q_gN11 {x0 x1 x2 x3 x4 x5 x6 x7 x8 x9 x10 : Sl} : gN 11 d (x0 :: x1 :: x2 :: x3 :: x4 :: x5 :: x6 :: x7 :: x8 :: x9 :: x10 :: x :: ρ) k = k (x0 :: x1 :: x2 :: x3 :: x4 :: x5 :: x6 :: x7 :: x8 :: x9 :: x10 :: .sh d :: ρ) := propext ⟨id, id⟩
theorem q_rd12 {x0 x1 x2 x3 x4 x5 x6 x7 x8 x9 x10 x11 : Sl} : Rn Q E (kt (rd 12 (x0 :: x1 :: x2 :: x3 :: x4 :: x5 :: x6 :: x7 :: x8 :: x9 :: x10 :: x11 :: .sh d :: ρ)) S) = Q d S := propext ⟨id, id⟩
theorem q_gN12 {x0 x1 x2 x3 x4 x5 x6 x7 x8 x9 x10 x11 : Sl} : gN 12 d (x0 :: x1 :: x2 :: x3 :: x4 :: x5 :: x6 :: x7 :: x8 :: x9 :: x10 :: x11 :: x :: ρ) k = k (x0 :: x1 :: x2 :: x3 :: x4 :: x5 :: x6 :: x7 :: x8 :: x9 :: x10 :: x11 :: .sh d :: ρ) := propext ⟨id, id⟩
theorem q_rd13 {x0 x1 x2 x3 x4 x5 x6 x7 x8 x9 x10 x11 x12 : Sl} : Rn Q E (kt (rd 13 (x0 :: x1 :: x2 :: x3 :: x4 :: x5 :: x6 :: x7 :: x8 :: x9 :: x10 :: x11 :: x12 :: .sh d :: ρ)) S) = Q d S := propext ⟨id, id⟩
theorem q_gN13 {x0 x1 x2 x3 x4 x5 x6 x7 x8 x9 x10 x11 x12 : Sl} : gN 13 d (x0 :: x1 :: x2 :: x3 :: x4 :: x5 :: x6 :: x7 :: x8 :: x9 :: x10 :: x11 :: x12 :: x :: ρ) k = k (x0 :: x1 :: x2 :: x3 :: x4 :: x5 :: x6 :: x7 :: x8 :: x9 :: x10 :: x11 :: x12 :: .sh d :: ρ) := propext ⟨id, id⟩
theorem q_rd14 {x0 x1 x2 x3 x4 x5 x6 x7 x8 x9 x10 x11 x12 x13 : Sl} : Rn Q E (kt (rd 14 (x0 :: x1 :: x2 :: x3 :: x4 :: x5 :: x6 :: x7 :: x8 :: x9 :: x10 :: x11 :: x12 :: x13 :: .sh d :: ρ)) S) = Q d S := propext ⟨id, id⟩
theorem q_gN14 {x0 x1 x2 x3 x4 x5 x6 x7 x8 x9 x10 x11 x12 x13 : Sl} : gN 14 d (x0 :: x1 :: x2 :: x3 :: x4 :: x5 :: x6 :: x7 :: x8 :: x9 :: x10 :: x11 :: x12 :: x13 :: x :: ρ) k = k (x0 :: x1 :: x2 :: x3 :: x4 :: x5 :: x6 :: x7 :: x8 :: x9 :: x10 :: x11 :: x12 :: x13 :: .sh d :: ρ) := propext ⟨id, id⟩
theorem q_rd15 {x0 x1 x2 x3 x4 x5 x6 x7 x8 x9 x10 x11 x12 x13 x14 : Sl} : Rn Q E (kt (rd 15 (x0 :: x1 :: x2 :: x3 :: x4 :: x5 :: x6 :: x7 :: x8 :: x9 :: x10 :: x11 :: x12 :: x13 :: x14 :: .sh d :: ρ)) S) = Q d S := propext ⟨id, id⟩
theorem q_gN15 {x0 x1 x2 x3 x4 x5 x6 x7 x8 x9 x10 x11 x12 x13 x14 : Sl} : gN 15 d (x0 :: x1 :: x2 :: x3 :: x4 :: x5 :: x6 :: x7 :: x8 :: x9 :: x10 :: x11 :: x12 :: x13 :: x14 :: x :: ρ) k = k (x0 :: x1 :: x2 :: x3 :: x4 :: x5 :: x6 :: x7 :: x8 :: x9 :: x10 :: x11 :: x12 :: x13 :: x14 :: .sh d :: ρ) := propext ⟨id, id⟩
theorem q_rd16 {x0 x1 x2 x3 x4 x5 x6 x7 x8 x9 x10 x11 x12 x13 x14 x15 : Sl} : Rn Q E (kt (rd 16 (x0 :: x1 :: x2 :: x3 :: x4 :: x5 :: x6 :: x7 :: x8 :: x9 :: x10 :: x11 :: x12 :: x13 :: x14 :: x15 :: .sh d :: ρ)) S) = Q d S := propext ⟨id, id⟩
theorem q_gN16 {x0 x1 x2 x3 x4 x5 x6 x7 x8 x9 x10 x11 x12 x13 x14 x15 : Sl} : gN 16 d (x0 :: x1 :: x2 :: x3 :: x4 :: x5 :: x6 :: x7 :: x8 :: x9 :: x10 :: x11 :: x12 :: x13 :: x14 :: x15 :: x :: ρ) k = k (x0 :: x1 :: x2 :: x3 :: x4 :: x5 :: x6 :: x7 :: x8 :: x9 :: x10 :: x11 :: x12 :: x13 :: x14 :: x15 :: .sh d :: ρ) := propext ⟨id, id⟩
theorem q_rd17 {x0 x1 x2 x3 x4 x5 x6 x7 x8 x9 x10 x11 x12 x13 x14 x15 x16 : Sl} : Rn Q E (kt (rd 17 (x0 :: x1 :: x2 :: x3 :: x4 :: x5 :: x6 :: x7 :: x8 :: x9 :: x10 :: x11 :: x12 :: x13 :: x14 :: x15 :: x16 :: .sh d :: ρ)) S) = Q d S := propext ⟨id, id⟩
theorem q_gN17 {x0 x1 x2 x3 x4 x5 x6 x7 x8 x9 x10 x11 x12 x13 x14 x15 x16 : Sl} : gN 17 d (x0 :: x1 :: x2 :: x3 :: x4 :: x5 :: x6 :: x7 :: x8 :: x9 :: x10 :: x11 :: x12 :: x13 :: x14 :: x15 :: x16 :: x :: ρ) k = k (x0 :: x1 :: x2 :: x3 :: x4 :: x5 :: x6 :: x7 :: x8 :: x9 :: x10 :: x11 :: x12 :: x13 :: x14 :: x15 :: x16 :: .sh d :: ρ) := propext ⟨id, id⟩
theorem q_rd18 {x0 x1 x2 x3 x4 x5 x6 x7 x8 x9 x10 x11 x12 x13 x14 x15 x16 x17 : Sl} : Rn Q E (kt (rd 18 (x0 :: x1 :: x2 :: x3 :: x4 :: x5 :: x6 :: x7 :: x8 :: x9 :: x10 :: x11 :: x12 :: x13 :: x14 :: x15 :: x16 :: x17 :: .sh d :: ρ)) S) = Q d S := propext ⟨id, id⟩
theorem q_gN18 {x0 x1 x2 x3 x4 x5 x6 x7 x8 x9 x10 x11 x12 x13 x14 x15 x16 x17 : Sl} : gN 18 d (x0 :: x1 :: x2 :: x3 :: x4 :: x5 :: x6 :: x7 :: x8 :: x9 :: x10 :: x11 :: x12 :: x13 :: x14 :: x15 :: x16 :: x17 :: x :: ρ) k = k (x0 :: x1 :: x2 :: x3 :: x4 :: x5 :: x6 :: x7 :: x8 :: x9 :: x10 :: x11 :: x12 :: x13 :: x14 :: x15 :: x16 :: x17 :: .sh d :: ρ) := propext ⟨id, id⟩
theorem q_rd19 {x0 x1 x2 x3 x4 x5 x6 x7 x8 x9 x10 x11 x12 x13 x14 x15 x16 x17 x18 : Sl} : Rn Q E (kt (rd 19 (x0 :: x1 :: x2 :: x3 :: x4 :: x5 :: x6 :: x7 :: x8 :: x9 :: x10 :: x11 :: x12 :: x13 :: x14 :: x15 :: x16 :: x17 :: x18 :: .sh d :: ρ)) S) = Q d S := propext ⟨id, id⟩
theorem q_gN19 {x0 x1 x2 x3 x4 x5 x6 x7 x8 x9 x10 x11 x12 x13 x14 x15 x16 x17 x18 : Sl} : gN 19 d (x0 :: x1 :: x2 :: x3 :: x4 :: x5 :: x6 :: x7 :: x8 :: x9 :: x10 :: x11 :: x12 :: x13 :: x14 :: x15 :: x16 :: x17 :: x18 :: x :: ρ) k = k (x0 :: x1 :: x2 :: x3 :: x4 :: x5 :: x6 :: x7 :: x8 :: x9 :: x10 :: x11 :: x12 :: x13 :: x14 :: x15 :: x16 :: x17 :: x18 :: .sh d :: ρ) := propext ⟨id, id⟩
theorem q_rd20 {x0 x1 x2 x3 x4 x5 x6 x7 x8 x9 x10 x11 x12 x13 x14 x15 x16 x17 x18 x19 : Sl} : Rn Q E (kt (rd 20 (x0 :: x1 :: x2 :: x3 :: x4 :: x5 :: x6 :: x7 :: x8 :: x9 :: x10 :: x11 :: x12 :: x13 :: x14 :: x15 :: x16 :: x17 :: x18 :: x19 :: .sh d :: ρ)) S) = Q d S := propext ⟨id, id⟩
theorem q_gN20 {x0 x1 x2 x3 x4 x5 x6 x7 x8 x9 x10 x11 x12 x13 x14 x15 x16 x17 x18 x19 : Sl} : gN 20 d (x0 :: x1 :: x2 :: x3 :: x4 :: x5 :: x6 :: x7 :: x8 :: x9 :: x10 :: x11 :: x12 :: x13 :: x14 :: x15 :: x16 :: x17 :: x18 :: x19 :: x :: ρ) k = k (x0 :: x1 :: x2 :: x3 :: x4 :: x5 :: x6 :: x7 :: x8 :: x9 :: x10 :: x11 :: x12 :: x13 :: x14 :: x15 :: x16 :: x17 :: x18 :: x19 :: .sh d :: ρ) := propext ⟨id, id⟩
theorem q_rd21 {x0 x1 x2 x3 x4 x5 x6 x7 x8 x9 x10 x11 x12 x13 x14 x15 x16 x17 x18 x19 x20 : Sl} : Rn Q E (kt (rd 21 (x0 :: x1 :: x2 :: x3 :: x4 :: x5 :: x6 :: x7 :: x8 :: x9 :: x10 :: x11 :: x12 :: x13 :: x14 :: x15 :: x16 :: x17 :: x18 :: x19 :: x20 :: .sh d :: ρ)) S) = Q d S := propext ⟨id, id⟩
theorem q_gN21 {x0 x1 x2 x3 x4 x5 x6 x7 x8 x9 x10 x11 x12 x13 x14 x15 x16 x17 x18 x19 x20 : Sl} : gN 21 d (x0 :: x1 :: x2 :: x3 :: x4 :: x5 :: x6 :: x7 :: x8 :: x9 :: x10 :: x11 :: x12 :: x13 :: x14 :: x15 :: x16 :: x17 :: x18 :: x19 :: x20 :: x :: ρ) k = k (x0 :: x1 :: x2 :: x3 :: x4 :: x5 :: x6 :: x7 :: x8 :: x9 :: x10 :: x11 :: x12 :: x13 :: x14 :: x15 :: x16 :: x17 :: x18 :: x19 :: x20 :: .sh d :: ρ) := propext ⟨id, id⟩
theorem q_rd22 {x0 x1 x2 x3 x4 x5 x6 x7 x8 x9 x10 x11 x12 x13 x14 x15 x16 x17 x18 x19 x20 x21 : Sl} : Rn Q E (kt (rd 22 (x0 :: x1 :: x2 :: x3 :: x4 :: x5 :: x6 :: x7 :: x8 :: x9 :: x10 :: x11 :: x12 :: x13 :: x14 :: x15 :: x16 :: x17 :: x18 :: x19 :: x20 :: x21 :: .sh d :: ρ)) S) = Q d S := propext ⟨id, id⟩
theorem q_gN22 {x0 x1 x2 x3 x4 x5 x6 x7 x8 x9 x10 x11 x12 x13 x14 x15 x16 x17 x18 x19 x20 x21 : Sl} : gN 22 d (x0 :: x1 :: x2 :: x3 :: x4 :: x5 :: x6 :: x7 :: x8 :: x9 :: x10 :: x11 :: x12 :: x13 :: x14 :: x15 :: x16 :: x17 :: x18 :: x19 :: x20 :: x21 :: x :: ρ) k = k (x0 :: x1 :: x2 :: x3 :: x4 :: x5 :: x6 :: x7 :: x8 :: x9 :: x10 :: x11 :: x12 :: x13 :: x14 :: x15 :: x16 :: x17 :: x18 :: x19 :: x20 :: x21 :: .sh d :: ρ) := propext ⟨id, id⟩
theorem q_rd23 {x0 x1 x2 x3 x4 x5 x6 x7 x8 x9 x10 x11 x12 x13 x14 x15 x16 x17 x18 x19 x20 x21 x22 : Sl} : Rn Q E (kt (rd 23 (x0 :: x1 :: x2 :: x3 :: x4 :: x5 :: x6 :: x7 :: x8 :: x9 :: x10 :: x11 :: x12 :: x13 :: x14 :: x15 :: x16 :: x17 :: x18 :: x19 :: x20 :: x21 :: x22 :: .sh d :: ρ)) S) = Q d S := propext ⟨id, id⟩
theorem q_gN23 {x0 x1 x2 x3 x4 x5 x6 x7 x8 x9 x10 x11 x12 x13 x14 x15 x16 x17 x18 x19 x20 x21 x22 : Sl} : gN 23 d (x0 :: x1 :: x2 :: x3 :: x4 :: x5 :: x6 :: x7 :: x8 :: x9 :: x10 :: x11 :: x12 :: x13 :: x14 :: x15 :: x16 :: x17 :: x18 :: x19 :: x20 :: x21 :: x22 :: x :: ρ) k = k (x0 :: x1 :: x2 :: x3 :: x4 :: x5 :: x6 :: x7 :: x8 :: x9 :: x10 :: x11 :: x12 :: x13 :: x14 :: x15 :: x16 :: x17 :: x18 :: x19 :: x20 :: x21 :: x22 :: .sh d :: ρ) := propext ⟨id, id⟩
theorem q_rd24 {x0 x1 x2 x3 x4 x5 x6 x7 x8 x9 x10 x11 x12 x13 x14 x15 x16 x17 x18 x19 x20 x21 x22 x23 : Sl} : Rn Q E (kt (rd 24 (x0 :: x1 :: x2 :: x3 :: x4 :: x5 :: x6 :: x7 :: x8 :: x9 :: x10 :: x11 :: x12 :: x13 :: x14 :: x15 :: x16 :: x17 :: x18 :: x19 :: x20 :: x21 :: x22 :: x23 :: .sh d :: ρ)) S) = Q d S := propext ⟨id, id⟩
theorem q_gN24 {x0 x1 x2 x3 x4 x5 x6 x7 x8 x9 x10 x11 x12 x13 x14 x15 x16 x17 x18 x19 x20 x21 x22 x23 : Sl} : gN 24 d (x0 :: x1 :: x2 :: x3 :: x4 :: x5 :: x6 :: x7 :: x8 :: x9 :: x10 :: x11 :: x12 :: x13 :: x14 :: x15 :: x16 :: x17 :: x18 :: x19 :: x20 :: x21 :: x22 :: x23 :: x :: ρ) k = k (x0 :: x1 :: x2 :: x3 :: x4 :: x5 :: x6 :: x7 :: x8 :: x9 :: x10 :: x11 :: x12 :: x13 :: x14 :: x15 :: x16 :: x17 :: x18 :: x19 :: x20 :: x21 :: x22 :: x23 :: .sh d :: ρ) := propext ⟨id, id⟩
theorem q_rd25 {x0 x1 x2 x3 x4 x5 x6 x7 x8 x9 x10 x11 x12 x13 x14 x15 x16 x17 x18 x19 x20 x21 x22 x23 x24 : Sl} : Rn Q E (kt (rd 25 (x0 :: x1 :: x2 :: x3 :: x4 :: x5 :: x6 :: x7 :: x8 :: x9 :: x10 :: x11 :: x12 :: x13 :: x14 :: x15 :: x16 :: x17 :: x18 :: x19 :: x20 :: x21 :: x22 :: x23 :: x24 :: .sh d :: ρ)) S) = Q d S := propext ⟨id, id⟩
theorem q_gN25 {x0 x1 x2 x3 x4 x5 x6 x7 x8 x9 x10 x11 x12 x13 x14 x15 x16 x17 x18 x19 x20 x21 x22 x23 x24 : Sl} : gN 25 d (x0 :: x1 :: x2 :: x3 :: x4 :: x5 :: x6 :: x7 :: x8 :: x9 :: x10 :: x11 :: x12 :: x13 :: x14 :: x15 :: x16 :: x17 :: x18 :: x19 :: x20 :: x21 :: x22 :: x23 :: x24 :: x :: ρ) k = k (x0 :: x1 :: x2 :: x3 :: x4 :: x5 :: x6 :: x7 :: x8 :: x9 :: x10 :: x11 :: x12 :: x13 :: x14 :: x15 :: x16 :: x17 :: x18 :: x19 :: x20 :: x21 :: x22 :: x23 :: x24 :: .sh d :: ρ) := propext ⟨id, id⟩
theorem q_rd26 {x0 x1 x2 x3 x4 x5 x6 x7 x8 x9 x10 x11 x12 x13 x14 x15 x16 x17 x18 x19 x20 x21 x22 x23 x24 x25 : Sl} : Rn Q E (kt (rd 26 (x0 :: x1 :: x2 :: x3 :: x4 :: x5 :: x6 :: x7 :: x8 :: x9 :: x10 :: x11 :: x12 :: x13 :: x14 :: x15 :: x16 :: x17 :: x18 :: x19 :: x20 :: x21 :: x22 :: x23 :: x24 :: x25 :: .sh d :: ρ)) S) = Q d S := propext ⟨id, id⟩
theorem q_gN26 {x0 x1 x2 x3 x4 x5 x6 x7 x8 x9 x10 x11 x12 x13 x14 x15 x16 x17 x18 x19 x20 x21 x22 x23 x24 x25 : Sl} : gN 26 d (x0 :: x1 :: x2 :: x3 :: x4 :: x5 :: x6 :: x7 :: x8 :: x9 :: x10 :: x11 :: x12 :: x13 :: x14 :: x15 :: x16 :: x17 :: x18 :: x19 :: x20 :: x21 :: x22 :: x23 :: x24 :: x25 :: x :: ρ) k = k (x0 :: x1 :: x2 :: x3 :: x4 :: x5 :: x6 :: x7 :: x8 :: x9 :: x10 :: x11 :: x12 :: x13 :: x14 :: x15 :: x16 :: x17 :: x18 :: x19 :: x20 :: x21 :: x22 :: x23 :: x24 :: x25 :: .sh d :: ρ) := propext ⟨id, id⟩
theorem q_rd27 {x0 x1 x2 x3 x4 x5 x6 x7 x8 x9 x10 x11 x12 x13 x14 x15 x16 x17 x18 x19 x20 x21 x22 x23 x24 x25 x26 : Sl} : Rn Q E (kt (rd 27 (x0 :: x1 :: x2 :: x3 :: x4 :: x5 :: x6 :: x7 :: x8 :: x9 :: x10 :: x11 :: x12 :: x13 :: x14 :: x15 :: x16 :: x17 :: x18 :: x19 :: x20 :: x21 :: x22 :: x23 :: x24 :: x25 :: x26 :: .sh d :: ρ)) S) = Q d S := propext ⟨id, id⟩
theorem q_gN27 {x0 x1 x2 x3 x4 x5 x6 x7 x8 x9 x10 x11 x12 x13 x14 x15 x16 x17 x18 x19 x20 x21 x22 x23 x24 x25 x26 : Sl} : gN 27 d (x0 :: x1 :: x2 :: x3 :: x4 :: x5 :: x6 :: x7 :: x8 :: x9 :: x10 :: x11 :: x12 :: x13 :: x14 :: x15 :: x16 :: x17 :: x18 :: x19 :: x20 :: x21 :: x22 :: x23 :: x24 :: x25 :: x26 :: x :: ρ) k = k (x0 :: x1 :: x2 :: x3 :: x4 :: x5 :: x6 :: x7 :: x8 :: x9 :: x10 :: x11 :: x12 :: x13 :: x14 :: x15 :: x16 :: x17 :: x18 :: x19 :: x20 :: x21 :: x22 :: x23 :: x24 :: x25 :: x26 :: .sh d :: ρ) := propext ⟨id, id⟩
theorem q_rd28 {x0 x1 x2 x3 x4 x5 x6 x7 x8 x9 x10 x11 x12 x13 x14 x15 x16 x17 x18 x19 x20 x21 x22 x23 x24 x25 x26 x27 : Sl} : Rn Q E (kt (rd 28 (x0 :: x1 :: x2 :: x3 :: x4 :: x5 :: x6 :: x7 :: x8 :: x9 :: x10 :: x11 :: x12 :: x13 :: x14 :: x15 :: x16 :: x17 :: x18 :: x19 :: x20 :: x21 :: x22 :: x23 :: x24 :: x25 :: x26 :: x27 :: .sh d :: ρ)) S) = Q d S := propext ⟨id, id⟩
theorem q_gN28 {x0 x1 x2 x3 x4 x5 x6 x7 x8 x9 x10 x11 x12 x13 x14 x15 x16 x17 x18 x19 x20 x21 x22 x23 x24 x25 x26 x27 : Sl} : gN 28 d (x0 :: x1 :: x2 :: x3 :: x4 :: x5 :: x6 :: x7 :: x8 :: x9 :: x10 :: x11 :: x12 :: x13 :: x14 :: x15 :: x16 :: x17 :: x18 :: x19 :: x20 :: x21 :: x22 :: x23 :: x24 :: x25 :: x26 :: x27 :: x :: ρ) k = k (x0 :: x1 :: x2 :: x3 :: x4 :: x5 :: x6 :: x7 :: x8 :: x9 :: x10 :: x11 :: x12 :: x13 :: x14 :: x15 :: x16 :: x17 :: x18 :: x19 :: x20 :: x21 :: x22 :: x23 :: x24 :: x25 :: x26 :: x27 :: .sh d :: ρ) := propext ⟨id, id⟩
theorem q_rd29 {x0 x1 x2 x3 x4 x5 x6 x7 x8 x9 x10 x11 x12 x13 x14 x15 x16 x17 x18 x19 x20 x21 x22 x23 x24 x25 x26 x27 x28 : Sl} : Rn Q E (kt (rd 29 (x0 :: x1 :: x2 :: x3 :: x4 :: x5 :: x6 :: x7 :: x8 :: x9 :: x10 :: x11 :: x12 :: x13 :: x14 :: x15 :: x16 :: x17 :: x18 :: x19 :: x20 :: x21 :: x22 :: x23 :: x24 :: x25 :: x26 :: x27 :: x28 :: .sh d :: ρ)) S) = Q d S := propext ⟨id, id⟩
theorem q_gN29 {x0 x1 x2 x3 x4 x5 x6 x7 x8 x9 x10 x11 x12 x13 x14 x15 x16 x17 x18 x19 x20 x21 x22 x23 x24 x25 x26 x27 x28 : Sl} : gN 29 d (x0 :: x1 :: x2 :: x3 :: x4 :: x5 :: x6 :: x7 :: x8 :: x9 :: x10 :: x11 :: x12 :: x13 :: x14 :: x15 :: x16 :: x17 :: x18 :: x19 :: x20 :: x21 :: x22 :: x23 :: x24 :: x25 :: x26 :: x27 :: x28 :: x :: ρ) k = k (x0 :: x1 :: x2 :: x3 :: x4 :: x5 :: x6 :: x7 :: x8 :: x9 :: x10 :: x11 :: x12 :: x13 :: x14 :: x15 :: x16 :: x17 :: x18 :: x19 :: x20 :: x21 :: x22 :: x23 :: x24 :: x25 :: x26 :: x27 :: x28 :: .sh d :: ρ) := propext ⟨id, id⟩
theorem q_rd30 {x0 x1 x2 x3 x4 x5 x6 x7 x8 x9 x10 x11 x12 x13 x14 x15 x16 x17 x18 x19 x20 x21 x22 x23 x24 x25 x26 x27 x28 x29 : Sl} : Rn Q E (kt (rd 30 (x0 :: x1 :: x2 :: x3 :: x4 :: x5 :: x6 :: x7 :: x8 :: x9 :: x10 :: x11 :: x12 :: x13 :: x14 :: x15 :: x16 :: x17 :: x18 :: x19 :: x20 :: x21 :: x22 :: x23 :: x24 :: x25 :: x26 :: x27 :: x28 :: x29 :: .sh d :: ρ)) S) = Q d S := propext ⟨id, id⟩
theorem q_gN30 {x0 x1 x2 x3 x4 x5 x6 x7 x8 x9 x10 x11 x12 x13 x14 x15 x16 x17 x18 x19 x20 x21 x22 x23 x24 x25 x26 x27 x28 x29 : Sl} : gN 30 d (x0 :: x1 :: x2 :: x3 :: x4 :: x5 :: x6 :: x7 :: x8 :: x9 :: x10 :: x11 :: x12 :: x13 :: x14 :: x15 :: x16 :: x17 :: x18 :: x19 :: x20 :: x21 :: x22 :: x23 :: x24 :: x25 :: x26 :: x27 :: x28 :: x29 :: x :: ρ) k = k (x0 :: x1 :: x2 :: x3 :: x4 :: x5 :: x6 :: x7 :: x8 :: x9 :: x10 :: x11 :: x12 :: x13 :: x14 :: x15 :: x16 :: x17 :: x18 :: x19 :: x20 :: x21 :: x22 :: x23 :: x24 :: x25 :: x26 :: x27 :: x28 :: x29 :: .sh d :: ρ) := propext ⟨id, id⟩
theorem q_rd31 {x0 x1 x2 x3 x4 x5 x6 x7 x8 x9 x10 x11 x12 x13 x14 x15 x16 x17 x18 x19 x20 x21 x22 x23 x24 x25 x26 x27 x28 x29 x30 : Sl} : Rn Q E (kt (rd 31 (x0 :: x1 :: x2 :: x3 :: x4 :: x5 :: x6 :: x7 :: x8 :: x9 :: x10 :: x11 :: x12 :: x13 :: x14 :: x15 :: x16 :: x17 :: x18 :: x19 :: x20 :: x21 :: x22 :: x23 :: x24 :: x25 :: x26 :: x27 :: x28 :: x29 :: x30 :: .sh d :: ρ)) S) = Q d S := propext ⟨id, id⟩
theorem q_gN31 {x0 x1 x2 x3 x4 x5 x6 x7 x8 x9 x10 x11 x12 x13 x14 x15 x16 x17 x18 x19 x20 x21 x22 x23 x24 x25 x26 x27 x28 x29 x30 : Sl} : gN 31 d (x0 :: x1 :: x2 :: x3 :: x4 :: x5 :: x6 :: x7 :: x8 :: x9 :: x10 :: x11 :: x12 :: x13 :: x14 :: x15 :: x16 :: x17 :: x18 :: x19 :: x20 :: x21 :: x22 :: x23 :: x24 :: x25 :: x26 :: x27 :: x28 :: x29 :: x30 :: x :: ρ) k = k (x0 :: x1 :: x2 :: x3 :: x4 :: x5 :: x6 :: x7 :: x8 :: x9 :: x10 :: x11 :: x12 :: x13 :: x14 :: x15 :: x16 :: x17 :: x18 :: x19 :: x20 :: x21 :: x22 :: x23 :: x24 :: x25 :: x26 :: x27 :: x28 :: x29 :: x30 :: .sh d :: ρ) := propext ⟨id, id⟩
theorem q_rd32 {x0 x1 x2 x3 x4 x5 x6 x7 x8 x9 x10 x11 x12 x13 x14 x15 x16 x17 x18 x19 x20 x21 x22 x23 x24 x25 x26 x27 x28 x29 x30 x31 : Sl} : Rn Q E (kt (rd 32 (x0 :: x1 :: x2 :: x3 :: x4 :: x5 :: x6 :: x7 :: x8 :: x9 :: x10 :: x11 :: x12 :: x13 :: x14 :: x15 :: x16 :: x17 :: x18 :: x19 :: x20 :: x21 :: x22 :: x23 :: x24 :: x25 :: x26 :: x27 :: x28 :: x29 :: x30 :: x31 :: .sh d :: ρ)) S) = Q d S := propext ⟨id, id⟩
theorem q_gN32 {x0 x1 x2 x3 x4 x5 x6 x7 x8 x9 x10 x11 x12 x13 x14 x15 x16 x17 x18 x19 x20 x21 x22 x23 x24 x25 x26 x27 x28 x29 x30 x31 : Sl} : gN 32 d (x0 :: x1 :: x2 :: x3 :: x4 :: x5 :: x6 :: x7 :: x8 :: x9 :: x10 :: x11 :: x12 :: x13 :: x14 :: x15 :: x16 :: x17 :: x18 :: x19 :: x20 :: x21 :: x22 :: x23 :: x24 :: x25 :: x26 :: x27 :: x28 :: x29 :: x30 :: x31 :: x :: ρ) k = k (x0 :: x1 :: x2 :: x3 :: x4 :: x5 :: x6 :: x7 :: x8 :: x9 :: x10 :: x11 :: x12 :: x13 :: x14 :: x15 :: x16 :: x17 :: x18 :: x19 :: x20 :: x21 :: x22 :: x23 :: x24 :: x25 :: x26 :: x27 :: x28 :: x29 :: x30 :: x31 :: .sh d :: ρ) := propext ⟨id, id⟩
theorem q_rd33 {x0 x1 x2 x3 x4 x5 x6 x7 x8 x9 x10 x11 x12 x13 x14 x15 x16 x17 x18 x19 x20 x21 x22 x23 x24 x25 x26 x27 x28 x29 x30 x31 x32 : Sl} : Rn Q E (kt (rd 33 (x0 :: x1 :: x2 :: x3 :: x4 :: x5 :: x6 :: x7 :: x8 :: x9 :: x10 :: x11 :: x12 :: x13 :: x14 :: x15 :: x16 :: x17 :: x18 :: x19 :: x20 :: x21 :: x22 :: x23 :: x24 :: x25 :: x26 :: x27 :: x28 :: x29 :: x30 :: x31 :: x32 :: .sh d :: ρ)) S) = Q d S := propext ⟨id, id⟩
theorem q_gN33 {x0 x1 x2 x3 x4 x5 x6 x7 x8 x9 x10 x11 x12 x13 x14 x15 x16 x17 x18 x19 x20 x21 x22 x23 x24 x25 x26 x27 x28 x29 x30 x31 x32 : Sl} : gN 33 d (x0 :: x1 :: x2 :: x3 :: x4 :: x5 :: x6 :: x7 :: x8 :: x9 :: x10 :: x11 :: x12 :: x13 :: x14 :: x15 :: x16 :: x17 :: x18 :: x19 :: x20 :: x21 :: x22 :: x23 :: x24 :: x25 :: x26 :: x27 :: x28 :: x29 :: x30 :: x31 :: x32 :: x :: ρ) k = k (x0 :: x1 :: x2 :: x3 :: x4 :: x5 :: x6 :: x7 :: x8 :: x9 :: x10 :: x11 :: x12 :: x13 :: x14 :: x15 :: x16 :: x17 :: x18 :: x19 :: x20 :: x21 :: x22 :: x23 :: x24 :: x25 :: x26 :: x27 :: x28 :: x29 :: x30 :: x31 :: x32 :: .sh d :: ρ) := propext ⟨id, id⟩
theorem q_rd34 {x0 x1 x2 x3 x4 x5 x6 x7 x8 x9 x10 x11 x12 x13 x14 x15 x16 x17 x18 x19 x20 x21 x22 x23 x24 x25 x26 x27 x28 x29 x30 x31 x32 x33 : Sl} : Rn Q E (kt (rd 34 (x0 :: x1 :: x2 :: x3 :: x4 :: x5 :: x6 :: x7 :: x8 :: x9 :: x10 :: x11 :: x12 :: x13 :: x14 :: x15 :: x16 :: x17 :: x18 :: x19 :: x20 :: x21 :: x22 :: x23 :: x24 :: x25 :: x26 :: x27 :: x28 :: x29 :: x30 :: x31 :: x32 :: x33 :: .sh d :: ρ)) S) = Q d S := propext ⟨id, id⟩
theorem q_gN34 {x0 x1 x2 x3 x4 x5 x6 x7 x8 x9 x10 x11 x12 x13 x14 x15 x16 x17 x18 x19 x20 x21 x22 x23 x24 x25 x26 x27 x28 x29 x30 x31 x32 x33 : Sl} : gN 34 d (x0 :: x1 :: x2 :: x3 :: x4 :: x5 :: x6 :: x7 :: x8 :: x9 :: x10 :: x11 :: x12 :: x13 :: x14 :: x15 :: x16 :: x17 :: x18 :: x19 :: x20 :: x21 :: x22 :: x23 :: x24 :: x25 :: x26 :: x27 :: x28 :: x29 :: x30 :: x31 :: x32 :: x33 :: x :: ρ) k = k (x0 :: x1 :: x2 :: x3 :: x4 :: x5 :: x6 :: x7 :: x8 :: x9 :: x10 :: x11 :: x12 :: x13 :: x14 :: x15 :: x16 :: x17 :: x18 :: x19 :: x20 :: x21 :: x22 :: x23 :: x24 :: x25 :: x26 :: x27 :: x28 :: x29 :: x30 :: x31 :: x32 :: x33 :: .sh d :: ρ) := propext ⟨id, id⟩
theorem q_rd35 {x0 x1 x2 x3 x4 x5 x6 x7 x8 x9 x10 x11 x12 x13 x14 x15 x16 x17 x18 x19 x20 x21 x22 x23 x24 x25 x26 x27 x28 x29 x30 x31 x32 x33 x34 : Sl} : Rn Q E (kt (rd 35 (x0 :: x1 :: x2 :: x3 :: x4 :: x5 :: x6 :: x7 :: x8 :: x9 :: x10 :: x11 :: x12 :: x13 :: x14 :: x15 :: x16 :: x17 :: x18 :: x19 :: x20 :: x21 :: x22 :: x23 :: x24 :: x25 :: x26 :: x27 :: x28 :: x29 :: x30 :: x31 :: x32 :: x33 :: x34 :: .sh d :: ρ)) S) = Q d S := propext ⟨id, id⟩
theorem q_gN35 {x0 x1 x2 x3 x4 x5 x6 x7 x8 x9 x10 x11 x12 x13 x14 x15 x16 x17 x18 x19 x20 x21 x22 x23 x24 x25 x26 x27 x28 x29 x30 x31 x32 x33 x34 : Sl} : gN 35 d (x0 :: x1 :: x2 :: x3 :: x4 :: x5 :: x6 :: x7 :: x8 :: x9 :: x10 :: x11 :: x12 :: x13 :: x14 :: x15 :: x16 :: x17 :: x18 :: x19 :: x20 :: x21 :: x22 :: x23 :: x24 :: x25 :: x26 :: x27 :: x28 :: x29 :: x30 :: x31 :: x32 :: x33 :: x34 :: x :: ρ) k = k (x0 :: x1 :: x2 :: x3 :: x4 :: x5 :: x6 :: x7 :: x8 :: x9 :: x10 :: x11 :: x12 :: x13 :: x14 :: x15 :: x16 :: x17 :: x18 :: x19 :: x20 :: x21 :: x22 :: x23 :: x24 :: x25 :: x26 :: x27 :: x28 :: x29 :: x30 :: x31 :: x32 :: x33 :: x34 :: .sh d :: ρ) := propext ⟨id, id⟩
theorem q_rd36 {x0 x1 x2 x3 x4 x5 x6 x7 x8 x9 x10 x11 x12 x13 x14 x15 x16 x17 x18 x19 x20 x21 x22 x23 x24 x25 x26 x27 x28 x29 x30 x31 x32 x33 x34 x35 : Sl} : Rn Q E (kt (rd 36 (x0 :: x1 :: x2 :: x3 :: x4 :: x5 :: x6 :: x7 :: x8 :: x9 :: x10 :: x11 :: x12 :: x13 :: x14 :: x15 :: x16 :: x17 :: x18 :: x19 :: x20 :: x21 :: x22 :: x23 :: x24 :: x25 :: x26 :: x27 :: x28 :: x29 :: x30 :: x31 :: x32 :: x33 :: x34 :: x35 :: .sh d :: ρ)) S) = Q d S := propext ⟨id, id⟩
theorem q_gN36 {x0 x1 x2 x3 x4 x5 x6 x7 x8 x9 x10 x11 x12 x13 x14 x15 x16 x17 x18 x19 x20 x21 x22 x23 x24 x25 x26 x27 x28 x29 x30 x31 x32 x33 x34 x35 : Sl} : gN 36 d (x0 :: x1 :: x2 :: x3 :: x4 :: x5 :: x6 :: x7 :: x8 :: x9 :: x10 :: x11 :: x12 :: x13 :: x14 :: x15 :: x16 :: x17 :: x18 :: x19 :: x20 :: x21 :: x22 :: x23 :: x24 :: x25 :: x26 :: x27 :: x28 :: x29 :: x30 :: x31 :: x32 :: x33 :: x34 :: x35 :: x :: ρ) k = k (x0 :: x1 :: x2 :: x3 :: x4 :: x5 :: x6 :: x7 :: x8 :: x9 :: x10 :: x11 :: x12 :: x13 :: x14 :: x15 :: x16 :: x17 :: x18 :: x19 :: x20 :: x21 :: x22 :: x23 :: x24 :: x25 :: x26 :: x27 :: x28 :: x29 :: x30 :: x31 :: x32 :: x33 :: x34 :: x35 :: .sh d :: ρ) := propext ⟨id, id⟩
theorem q_rd37 {x0 x1 x2 x3 x4 x5 x6 x7 x8 x9 x10 x11 x12 x13 x14 x15 x16 x17 x18 x19 x20 x21 x22 x23 x24 x25 x26 x27 x28 x29 x30 x31 x32 x33 x34 x35 x36 : Sl} : Rn Q E (kt (rd 37 (x0 :: x1 :: x2 :: x3 :: x4 :: x5 :: x6 :: x7 :: x8 :: x9 :: x10 :: x11 :: x12 :: x13 :: x14 :: x15 :: x16 :: x17 :: x18 :: x19 :: x20 :: x21 :: x22 :: x23 :: x24 :: x25 :: x26 :: x27 :: x28 :: x29 :: x30 :: x31 :: x32 :: x33 :: x34 :: x35 :: x36 :: .sh d :: ρ)) S) = Q d S := propext ⟨id, id⟩
theorem q_gN37 {x0 x1 x2 x3 x4 x5 x6 x7 x8 x9 x10 x11 x12 x13 x14 x15 x16 x17 x18 x19 x20 x21 x22 x23 x24 x25 x26 x27 x28 x29 x30 x31 x32 x33 x34 x35 x36 : Sl} : gN 37 d (x0 :: x1 :: x2 :: x3 :: x4 :: x5 :: x6 :: x7 :: x8 :: x9 :: x10 :: x11 :: x12 :: x13 :: x14 :: x15 :: x16 :: x17 :: x18 :: x19 :: x20 :: x21 :: x22 :: x23 :: x24 :: x25 :: x26 :: x27 :: x28 :: x29 :: x30 :: x31 :: x32 :: x33 :: x34 :: x35 :: x36 :: x :: ρ) k = k (x0 :: x1 :: x2 :: x3 :: x4 :: x5 :: x6 :: x7 :: x8 :: x9 :: x10 :: x11 :: x12 :: x13 :: x14 :: x15 :: x16 :: x17 :: x18 :: x19 :: x20 :: x21 :: x22 :: x23 :: x24 :: x25 :: x26 :: x27 :: x28 :: x29 :: x30 :: x31 :: x32 :: x33 :: x34 :: x35 :: x36 :: .sh d :: ρ) := propext ⟨id, id⟩
theorem q_rd38 {x0 x1 x2 x3 x4 x5 x6 x7 x8 x9 x10 x11 x12 x13 x14 x15 x16 x17 x18 x19 x20 x21 x22 x23 x24 x25 x26 x27 x28 x29 x30 x31 x32 x33 x34 x35 x36 x37 : Sl} : Rn Q E (kt (rd 38 (x0 :: x1 :: x2 :: x3 :: x4 :: x5 :: x6 :: x7 :: x8 :: x9 :: x10 :: x11 :: x12 :: x13 :: x14 :: x15 :: x16 :: x17 :: x18 :: x19 :: x20 :: x21 :: x22 :: x23 :: x24 :: x25 :: x26 :: x27 :: x28 :: x29 :: x30 :: x31 :: x32 :: x33 :: x34 :: x35 :: x36 :: x37 :: .sh d :: ρ)) S) = Q d S := propext ⟨id, id⟩
theorem q_gN38 {x0 x1 x2 x3 x4 x5 x6 x7 x8 x9 x10 x11 x12 x13 x14 x15 x16 x17 x18 x19 x20 x21 x22 x23 x24 x25 x26 x27 x28 x29 x30 x31 x32 x33 x34 x35 x36 x37 : Sl} : gN 38 d (x0 :: x1 :: x2 :: x3 :: x4 :: x5 :: x6 :: x7 :: x8 :: x9 :: x10 :: x11 :: x12 :: x13 :: x14 :: x15 :: x16 :: x17 :: x18 :: x19 :: x20 :: x21 :: x22 :: x23 :: x24 :: x25 :: x26 :: x27 :: x28 :: x29 :: x30 :: x31 :: x32 :: x33 :: x34 :: x35 :: x36 :: x37 :: x :: ρ) k = k (x0 :: x1 :: x2 :: x3 :: x4 :: x5 :: x6 :: x7 :: x8 :: x9 :: x10 :: x11 :: x12 :: x13 :: x14 :: x15 :: x16 :: x17 :: x18 :: x19 :: x20 :: x21 :: x22 :: x23 :: x24 :: x25 :: x26 :: x27 :: x28 :: x29 :: x30 :: x31 :: x32 :: x33 :: x34 :: x35 :: x36 :: x37 :: .sh d :: ρ) := propext ⟨id, id⟩
theorem q_rd39 {x0 x1 x2 x3 x4 x5 x6 x7 x8 x9 x10 x11 x12 x13 x14 x15 x16 x17 x18 x19 x20 x21 x22 x23 x24 x25 x26 x27 x28 x29 x30 x31 x32 x33 x34 x35 x36 x37 x38 : Sl} : Rn Q E (kt (rd 39 (x0 :: x1 :: x2 :: x3 :: x4 :: x5 :: x6 :: x7 :: x8 :: x9 :: x10 :: x11 :: x12 :: x13 :: x14 :: x15 :: x16 :: x17 :: x18 :: x19 :: x20 :: x21 :: x22 :: x23 :: x24 :: x25 :: x26 :: x27 :: x28 :: x29 :: x30 :: x31 :: x32 :: x33 :: x34 :: x35 :: x36 :: x37 :: x38 :: .sh d :: ρ)) S) = Q d S := propext ⟨id, id⟩
theorem q_gN39 {x0 x1 x2 x3 x4 x5 x6 x7 x8 x9 x10 x11 x12 x13 x14 x15 x16 x17 x18 x19 x20 x21 x22 x23 x24 x25 x26 x27 x28 x29 x30 x31 x32 x33 x34 x35 x36 x37 x38 : Sl} : gN 39 d (x0 :: x1 :: x2 :: x3 :: x4 :: x5 :: x6 :: x7 :: x8 :: x9 :: x10 :: x11 :: x12 :: x13 :: x14 :: x15 :: x16 :: x17 :: x18 :: x19 :: x20 :: x21 :: x22 :: x23 :: x24 :: x25 :: x26 :: x27 :: x28 :: x29 :: x30 :: x31 :: x32 :: x33 :: x34 :: x35 :: x36 :: x37 :: x38 :: x :: ρ) k = k (x0 :: x1 :: x2 :: x3 :: x4 :: x5 :: x6 :: x7 :: x8 :: x9 :: x10 :: x11 :: x12 :: x13 :: x14 :: x15 :: x16 :: x17 :: x18 :: x19 :: x20 :: x21 :: x22 :: x23 :: x24 :: x25 :: x26 :: x27 :: x28 :: x29 :: x30 :: x31 :: x32 :: x33 :: x34 :: x35 :: x36 :: x37 :: x38 :: .sh d :: ρ) := propext ⟨id, id⟩
end

def Ss13 := And.intro (And.intro (And.intro (And.intro (And.intro (And.intro @q_olS0 @q_olSS) (And.intro @q_unS0 @q_unSS)) (And.intro (And.intro @q_exS0 @q_exSS) (And.intro @q_olG0 @q_olGS))) (And.intro (And.intro (And.intro @q_exG0 @q_exGS) (And.intro @q_frz @q_frzO)) (And.intro (And.intro @q_frzD @q_frzU) (And.intro @q_frzS @q_lend)))) (And.intro (And.intro (And.intro (And.intro @q_lendO @q_lendD) (And.intro @q_lendS @q_rd0)) (And.intro (And.intro @q_gN0 @q_rd1) (And.intro @q_gN1 @q_rd2))) (And.intro (And.intro (And.intro @q_gN2 @q_rd3) (And.intro @q_gN3 @q_rd4)) (And.intro (And.intro @q_gN4 @q_rd5) (And.intro @q_gN5 @q_rd6))))) (And.intro (And.intro (And.intro (And.intro (And.intro @q_gN6 @q_rd7) (And.intro @q_gN7 @q_rd8)) (And.intro (And.intro @q_gN8 @q_rd9) (And.intro @q_gN9 @q_rd10))) (And.intro (And.intro (And.intro @q_gN10 @q_rd11) (And.intro @q_gN11 @q_rd12)) (And.intro (And.intro @q_gN12 @q_rd13) (And.intro @q_gN13 @q_rd14)))) (And.intro (And.intro (And.intro (And.intro @q_gN14 @q_rd15) (And.intro @q_gN15 @q_rd16)) (And.intro (And.intro @q_gN16 @q_rd17) (And.intro @q_gN17 @q_rd18))) (And.intro (And.intro (And.intro @q_gN18 @q_rd19) (And.intro @q_gN19 @q_rd20)) (And.intro (And.intro @q_gN20 @q_rd21) (And.intro @q_gN21 @q_rd22)))))
def Ss14 := And.intro (And.intro (And.intro (And.intro (And.intro @q_gN22 @q_rd23) (And.intro @q_gN23 @q_rd24)) (And.intro (And.intro @q_gN24 @q_rd25) (And.intro @q_gN25 @q_rd26))) (And.intro (And.intro (And.intro @q_gN26 @q_rd27) (And.intro @q_gN27 @q_rd28)) (And.intro (And.intro @q_gN28 @q_rd29) (And.intro @q_gN29 (And.intro @q_rd30 @q_gN30))))) (And.intro (And.intro (And.intro (And.intro @q_rd31 @q_gN31) (And.intro @q_rd32 @q_gN32)) (And.intro (And.intro @q_rd33 @q_gN33) (And.intro @q_rd34 (And.intro @q_gN34 @q_rd35)))) (And.intro (And.intro (And.intro @q_gN35 @q_rd36) (And.intro @q_gN36 @q_rd37)) (And.intro (And.intro @q_gN37 @q_rd38) (And.intro @q_gN38 (And.intro @q_rd39 @q_gN39)))))
section
variable {α β : Type} {S : Sv} {ρ : Rh} {E : Xn → Sv → Prop} {nx bk ct : Rh → Sv → Prop} {rt : D → Sv → Prop} {ex : Xn → Rh → Sv → Prop} {Q : D → Sv → Prop} {P : Prop}
def parK2 (i j : Nat) (ds : List D) (ρ : Rh) (k : Rh → Prop) : Prop := match ds with
  | [a, b] => k ((ρ.set i (.sh a)).set j (.sh b))
  | _ => False
theorem q_par {i j : Nat} {m : Rh → M (List D)} : Rs (EndsD.mk nx rt bk ct ex) (ks (sPar i j m) ρ S) = Rn (fun ds S' => parK2 i j ds ρ fun r => nx r S') (fun x S' => ex x ρ S') (kt (m ρ) S) := (show sPar i j m ρ S (EndsD.mk nx rt bk ct ex) = m ρ S (fun ds S' => parK2 i j ds ρ fun r => nx r S') (fun x S' => ex x ρ S') from by
  unfold sPar
  have e : (fun ds S' => match ds with | [a, b] => nx ((ρ.set i (.sh a)).set j (.sh b)) S' | _ => False : List D → Sv → Prop) = fun ds S' => parK2 i j ds ρ fun r => nx r S' := by
    funext ds S'
    unfold parK2
    split <;> rfl
  exact congrArg (fun q => m ρ S q (fun x S' => ex x ρ S')) e)
theorem q_parK {i j : Nat} {a b : D} {k : Rh → Prop} : parK2 i j [a, b] ρ k = gN i a ρ fun r => gN j b r k := propext ⟨id, id⟩
theorem q_aug {i : Nat} {f : D → D → M D} {e : Rh → M D} : Rs (EndsD.mk nx rt bk ct ex) (ks (sAug i f e) ρ S) = Rn (fun x S1 => Rn (fun y S2 => Rn (fun d S' => gN i d ρ fun r => nx r S') (fun x S' => ex x ρ S') (kt (f x y) S2)) (fun x S' => ex x ρ S') (kt (e ρ) S1)) (fun x S' => ex x ρ S') (kt (rd i ρ) S) := propext ⟨id, id⟩
theorem q_ifW {i : Nat} {f : D → D → M D} {e b : Rh → M D} {ma mb : Sm} : Rs (EndsD.mk nx rt bk ct ex) (ks (sIfW i f e b ma mb) ρ S) = Rn (fun d S1 => gN i d ρ fun r => Rn (fun y S2 => Rn (fun z S3 => Rn (fun k S4 => IteP (Rs (EndsD.mk nx rt bk ct ex) (ks ma r S4)) (Rs (EndsD.mk nx rt bk ct ex) (ks mb r S4)) (bf k)) (fun x S' => ex x r S') (kt (asB z) S3)) (fun x S' => ex x r S') (kt (f d y) S2)) (fun x S' => ex x r S') (kt (b r) S1)) (fun x S' => ex x ρ S') (kt (e ρ) S) := propext ⟨id, id⟩
theorem q_own {i : Nat} {m : Rh → M (List D)} : Rs (EndsD.mk nx rt bk ct ex) (ks (sOwn i m) ρ S) = Rn (fun ds S' => Rn (fun _ S' => olS i ds ρ fun r => nx r S') (fun _ _ => False) (kt (need (ds.length ≤ sizeLine) (ret ())) S')) (fun x S' => ex x ρ S') (kt (m ρ) S) := propext ⟨id, id⟩
theorem q_app {i : Nat} {e : Rh → M D} : Rs (EndsD.mk nx rt bk ct ex) (ks (sApp i e) ρ S) = olG i ρ fun ds => Rn (fun d S' => Rn (fun _ S' => olS i (ds ++ [d]) ρ fun r => nx r S') (fun _ _ => False) (kt (need (ds.length < sizeLine) (ret ())) S')) (fun x S' => ex x ρ S') (kt (e ρ) S) := (show sApp i e ρ S (EndsD.mk nx rt bk ct ex) = olG i ρ fun ds => e ρ S (fun d S' => need (ds.length < sizeLine) (ret ()) S' (fun _ S' => olS i (ds ++ [d]) ρ fun r => nx r S') (fun _ _ => False)) (fun x S' => ex x ρ S') from by
  unfold sApp olG
  refine propext ?_
  cases h : ρ[i]? with
  | none => exact Iff.rfl
  | some s => cases s <;> exact Iff.rfl)
theorem q_ixO {i : Nat} {b : Rh → M D} : Rn Q E (kt (eIxO i b ρ) S) = olG i ρ fun ds => Rn (fun j S1 => Rn Q E (kt (ixD (.lst ds) j) S1)) E (kt (b ρ) S) := (show eIxO i b ρ S Q E = olG i ρ fun ds => b ρ S (fun j S1 => ixD (.lst ds) j S1 Q E) E from by
  unfold eIxO olG
  refine propext ?_
  cases h : ρ[i]? with
  | none => exact Iff.rfl
  | some s => cases s <;> exact Iff.rfl)
theorem q_exF {cs : List Str} {i : Nat} {f : Str} : Rn Q E (kt (exF cs i f ρ) S) = exG i ρ fun x => Rn Q E (kt (need (cs.contains x.c = true) (fldOf f x.ns x.ds)) S) := (show exF cs i f ρ S Q E = exG i ρ fun x => need (cs.contains x.c = true) (fldOf f x.ns x.ds) S Q E from by
  unfold exF exG
  cases h : ρ[i]? with
  | none => rfl
  | some s =>
    cases s with
    | ex x =>
      refine propext ?_
      show (match cs.contains x.c with | true => fldOf f x.ns x.ds | false => fail) S Q E ↔ (cs.contains x.c = true ∧ fldOf f x.ns x.ds S Q E)
      cases cs.contains x.c
      · exact ⟨fun h => h.elim, fun h => by cases h.1⟩
      · exact ⟨fun h => ⟨rfl, h⟩, fun h => h.2⟩
    | _ => rfl)
theorem q_isX {xs : List Str} {i : Nat} {mc : Rh → M D} : Rn Q E (kt (eIsX xs i mc ρ) S) = exG i ρ fun x => Rn (fun t S' => Rn Q E (kt (orFail ((isXV xs x.c t).map D.bl)) S')) E (kt (mc ρ) S) := (show eIsX xs i mc ρ S Q E = exG i ρ fun x => mc ρ S (fun t S' => orFail ((isXV xs x.c t).map D.bl) S' Q E) E from by
  unfold eIsX exG
  cases h : ρ[i]? with
  | none => rfl
  | some s => cases s <;> rfl)
def wipK (ρ : Rh) : List Nat → (Rh → Prop) → Prop
  | [], k => k ρ
  | v :: vs, k => wipK ρ vs fun r => unS v r k
theorem wipK_eq : ∀ (vs : List Nat) (k : Rh → Prop), wipK ρ vs k = k (wipeR ρ vs)
  | [], _ => rfl
  | v :: vs, k => by unfold wipK; rw [wipK_eq vs]; rfl
theorem q_wip0 {k : Rh → Prop} : wipK ρ [] k = k ρ := rfl
theorem q_wipS {v : Nat} {vs : List Nat} {k : Rh → Prop} : wipK ρ (v :: vs) k = wipK ρ vs fun r => unS v r k := rfl
theorem q_lc {it : Rh → M (List D)} {vs : List Nat} {g : Tg} {t : Rh → M Bool} {e : Rh → M D} : Rn Q E (kt (eLc it vs g t e ρ) S) = Rn (fun ds S1 => wipK ρ vs fun r => Rn (fun xs S2 => Q (.lst xs) S2) (fun _ _ => False) (kt (need (ds.length < sizeLine) (compL g t e ds r)) S1)) E (kt (it ρ) S) := (show eLc it vs g t e ρ S Q E = it ρ S (fun ds S1 => wipK ρ vs fun r => need (ds.length < sizeLine) (compL g t e ds r) S1 (fun xs S2 => Q (.lst xs) S2) (fun _ _ => False)) E from by
  simp only [wipK_eq]
  exact propext ⟨id, id⟩)
def fgK : List Nat → Rh → (Rh → Prop) → Prop
  | [], ρ, k => k ρ
  | v :: vs, ρ, k => unS v ρ fun r => fgK vs r k
theorem fgK_eq : ∀ (vs : List Nat) (ρ : Rh) (k : Rh → Prop), fgK vs ρ k = k (forgetR vs ρ)
  | [], _, _ => rfl
  | v :: vs, ρ, k => fgK_eq vs (ρ.set v .un) k
theorem q_fg0 {k : Rh → Prop} : fgK [] ρ k = k ρ := rfl
theorem q_fgS {v : Nat} {vs : List Nat} {k : Rh → Prop} : fgK (v :: vs) ρ k = unS v ρ fun r => fgK vs r k := rfl
theorem q_wp {vs : List Nat} {m : Sm} : Rs (EndsD.mk nx rt bk ct ex) (ks (sWip vs m) ρ S) = Rs (EndsD.mk (fun r S' => fgK vs r fun r => nx r S') rt bk (fun r S' => fgK vs r fun r => ct r S') ex) (ks m ρ S) := (show sWip vs m ρ S (EndsD.mk nx rt bk ct ex) = m ρ S (EndsD.mk (fun r S' => fgK vs r fun r => nx r S') rt bk (fun r S' => fgK vs r fun r => ct r S') ex) from by
  simp only [fgK_eq]
  rfl)
def wxK : Rh → (Rh → Prop) → Prop
  | [], k => k []
  | s :: ρ, k => wxK ρ fun r => k (noX s :: r)
theorem wxK_eq : ∀ (ρ : Rh) (k : Rh → Prop), wxK ρ k = k (wipX ρ)
  | [], _ => rfl
  | s :: ρ, k => by unfold wxK; rw [wxK_eq ρ]; rfl
theorem q_wx0 {k : Rh → Prop} : wxK [] k = k [] := rfl
theorem q_wxD {d : D} {k : Rh → Prop} : wxK (.sh d :: ρ) k = wxK ρ fun r => k (.sh d :: r) := rfl
theorem q_wxU {k : Rh → Prop} : wxK (.un :: ρ) k = wxK ρ fun r => k (.un :: r) := rfl
theorem q_wxO {ds : List D} {k : Rh → Prop} : wxK (.ol ds :: ρ) k = wxK ρ fun r => k (.ol ds :: r) := rfl
theorem q_wxI {c : Str} {ns : List Str} {ds : List D} {k : Rh → Prop} : wxK (.oi c ns ds :: ρ) k = wxK ρ fun r => k (.oi c ns ds :: r) := rfl
theorem q_wxF {k : Rh → Prop} : wxK (.fn :: ρ) k = wxK ρ fun r => k (.fn :: r) := rfl
theorem q_wxX {x : Xn} {k : Rh → Prop} : wxK (.ex x :: ρ) k = wxK ρ fun r => k (.un :: r) := rfl
theorem q_try {xs : List Str} {b : Sm} {hs : List Hd} : Rs (EndsD.mk nx rt bk ct ex) (ks (sTry xs b hs) ρ S) = Rs (EndsD.mk nx rt bk ct (fun x ρ' S' => hdl xs x ρ' S' (EndsD.mk nx rt bk ct ex) hs)) (ks b ρ S) := propext ⟨id, id⟩
theorem q_hdl0 {xs : List Str} {x : Xn} : hdl xs x ρ S (EndsD.mk nx rt bk ct ex) [] = ex x ρ S := propext ⟨id, id⟩
def hdlK (o : Option Bool) (xs : List Str) (x : Xn) (ρ : Rh) (S : Sv) (nx bk ct : Rh → Sv → Prop) (rt : D → Sv → Prop) (ex : Xn → Rh → Sv → Prop) (i : Option Nat) (m : Sm) (r : List Hd) : Prop := match o with
  | some true => wxK ρ fun ρ1 => (match i with | none => fun (k : Rh → Prop) => k ρ1 | some i => fun k => exS i x ρ1 k) fun ρ2 => m ρ2 S (EndsD.mk (fun ρ S => wxK ρ fun r => (match i with | none => nx r S | some i => unS i r fun r => nx r S)) rt (fun ρ S => wxK ρ fun r => (match i with | none => bk r S | some i => unS i r fun r => bk r S)) (fun ρ S => wxK ρ fun r => (match i with | none => ct r S | some i => unS i r fun r => ct r S)) (fun _ _ _ => False))
  | some false => hdl xs x ρ S (EndsD.mk nx rt bk ct ex) r
  | none => False
theorem q_hdl {xs : List Str} {x : Xn} {C : Str} {i : Option Nat} {m : Sm} {r : List Hd} : hdl xs x ρ S (EndsD.mk nx rt bk ct ex) (⟨C, i, m⟩ :: r) = hdlK (subX xs x.c C) xs x ρ S nx bk ct rt ex i m r := by
  conv => lhs; unfold hdl
  unfold hdlK
  simp only [wxK_eq]
  cases subX xs x.c C with
  | none => rfl
  | some b =>
    cases b with
    | false => rfl
    | true => cases i <;> rfl
theorem q_hdlF {xs : List Str} {x : Xn} {i : Option Nat} {m : Sm} {r : List Hd} : hdlK (some false) xs x ρ S nx bk ct rt ex i m r = hdl xs x ρ S (EndsD.mk nx rt bk ct ex) r := rfl
theorem q_hdlN {xs : List Str} {x : Xn} {m : Sm} {r : List Hd} : hdlK (some true) xs x ρ S nx bk ct rt ex none m r = wxK ρ fun ρ2 => Rs (EndsD.mk (fun ρ S => wxK ρ fun r => nx r S) rt (fun ρ S => wxK ρ fun r => bk r S) (fun ρ S => wxK ρ fun r => ct r S) (fun _ _ _ => False)) (ks m ρ2 S) := (show hdlK (some true) xs x ρ S nx bk ct rt ex none m r = wxK ρ fun ρ2 => m ρ2 S (EndsD.mk (fun ρ S => wxK ρ fun r => nx r S) rt (fun ρ S => wxK ρ fun r => bk r S) (fun ρ S => wxK ρ fun r => ct r S) (fun _ _ _ => False)) from rfl)
theorem q_hdlS {xs : List Str} {x : Xn} {i : Nat} {m : Sm} {r : List Hd} : hdlK (some true) xs x ρ S nx bk ct rt ex (some i) m r = wxK ρ fun ρ1 => exS i x ρ1 fun ρ2 => Rs (EndsD.mk (fun ρ S => wxK ρ fun r => unS i r fun r => nx r S) rt (fun ρ S => wxK ρ fun r => unS i r fun r => bk r S) (fun ρ S => wxK ρ fun r => unS i r fun r => ct r S) (fun _ _ _ => False)) (ks m ρ2 S) := (show hdlK (some true) xs x ρ S nx bk ct rt ex (some i) m r = wxK ρ fun ρ1 => exS i x ρ1 fun ρ2 => m ρ2 S (EndsD.mk (fun ρ S => wxK ρ fun r => unS i r fun r => nx r S) rt (fun ρ S => wxK ρ fun r => unS i r fun r => bk r S) (fun ρ S => wxK ρ fun r => unS i r fun r => ct r S) (fun _ _ _ => False)) from rfl)
def iniC (c : Str) (Q : D → Sv → Prop) (ρ : Rh) (S : Sv) : Prop := match ρ with
  | .oi c' ns ds :: _ => c' = c ∧ Q (.ins c ns ds) S
  | _ => False
theorem q_iniC {c : Str} {ns : List Str} {ds : List D} : iniC c Q (.oi c ns ds :: ρ) S = Q (.ins c ns ds) S := propext ⟨fun h => h.2, fun h => ⟨rfl, h⟩⟩
theorem q0_cls_ini {c : Str} {n N : Nat} {code : Sm} {ds : List D} (h : Nat.beq ds.length n = true) : clsF c (mkI c n N code) ds S Q E = code (.oi c [] [] :: startD N ds) S (EndsD.mk (fun ρ S' => iniC c Q ρ S') (fun _ _ => False) (fun _ _ => False) (fun _ _ => False) (fun x _ S' => E x S')) := by
  show mkI c n N code ds S _ E = _
  unfold mkI
  rw [h]
  show code _ S _ = code _ S _
  refine congrArg _ ?_
  unfold endsI
  refine congrArg (fun q => EndsD.mk q _ _ _ _) ?_
  funext ρ' S'
  cases ρ' with
  | nil => rfl
  | cons s r => cases s <;> rfl
theorem q_fld {c f : Str} {e : Rh → M D} {ns : List Str} {ds : List D} : Rs (EndsD.mk nx rt bk ct ex) (ks (sFldI 0 c f e) (.oi c ns ds :: ρ) S) = Rn (fun d S' => Rn (fun _ S' => nx (.oi c (ns ++ [f]) (ds ++ [d]) :: ρ) S') (fun _ _ => False) (kt (need (ns.contains f = false ∧ ns.length < 900) (ret ())) S')) (fun x S' => ex x (.oi c ns ds :: ρ) S') (kt (e (.oi c ns ds :: ρ)) S) := (show sFldI 0 c f e (.oi c ns ds :: ρ) S (EndsD.mk nx rt bk ct ex) = e (.oi c ns ds :: ρ) S (fun d S' => need (ns.contains f = false ∧ ns.length < 900) (ret ()) S' (fun _ S' => nx (.oi c (ns ++ [f]) (ds ++ [d]) :: ρ) S') (fun _ _ => False)) (fun x S' => ex x (.oi c ns ds :: ρ) S') from by
  unfold sFldI
  refine congrArg (fun q => e _ S q _) ?_
  funext d S'
  exact propext ⟨fun h => ⟨⟨h.2.1, h.2.2.1⟩, h.2.2.2⟩, fun h => ⟨rfl, h.1.1, h.1.2, h.2⟩⟩)
theorem q_rdI {c f : Str} {ns : List Str} {ds : List D} : Rn Q E (kt (rdI 0 c f (.oi c ns ds :: ρ)) S) = Rn Q E (kt (fldOf f ns ds) S) := (show rdI 0 c f (.oi c ns ds :: ρ) S Q E = fldOf f ns ds S Q E from propext ⟨fun h => h.2, fun h => ⟨rfl, h⟩⟩)
theorem q_fldSz {a b c d : D} : Rn Q E (kt (fldOf "size" ["first", "last", "prefix", "size"] [a, b, c, d]) S) = Q d S := propext ⟨id, id⟩
theorem q_fldSz5 {a b c d e : D} : Rn Q E (kt (fldOf "size" ["first", "last", "prefix", "size", "mask"] [a, b, c, d, e]) S) = Q d S := propext ⟨id, id⟩
theorem q_fldNw {a b : D} : Rn Q E (kt (fldOf "network" ["address", "network"] [a, b]) S) = Q b S := propext ⟨id, id⟩
end

def Ss5 := And.intro (And.intro (And.intro (And.intro (And.intro @q_par @q_parK) (And.intro @q_aug @q_ifW)) (And.intro (And.intro @q_own @q_app) (And.intro @q_ixO @q_exF))) (And.intro (And.intro (And.intro @q_isX @q_wip0) (And.intro @q_wipS @q_lc)) (And.intro (And.intro @q_fg0 @q_fgS) (And.intro @q_wp (And.intro @q_wx0 @q_wxD))))) (And.intro (And.intro (And.intro (And.intro @q_wxU @q_wxO) (And.intro @q_wxI @q_wxF)) (And.intro (And.intro @q_wxX @q_try) (And.intro @q_hdl0 @q_hdl))) (And.intro (And.intro (And.intro @q_hdlF @q_hdlN) (And.intro @q_hdlS @q_iniC)) (And.intro (And.intro @q_fld @q_rdI) (And.intro @q_fldSz (And.intro @q_fldSz5 @q_fldNw)))))
def Ss8 := And.intro @q_fldSz (And.intro @q_fldSz5 @q_fldNw)
section
variable {α β : Type} {S : Sv} {ρ : Rh} {E : Xn → Sv → Prop} {nx bk ct : Rh → Sv → Prop} {rt : D → Sv → Prop} {ex : Xn → Rh → Sv → Prop} {Q : D → Sv → Prop} {P : Prop}
theorem q_seq {a b : Sm} : Rs (EndsD.mk nx rt bk ct ex) (ks (sSeq a b) ρ S) = Rs (EndsD.mk (fun ρ' S' => Rs (EndsD.mk nx rt bk ct ex) (ks b ρ' S')) rt bk ct ex) (ks a ρ S) := propext ⟨id, id⟩
theorem q_nil  : Rs (EndsD.mk nx rt bk ct ex) (ks sNil ρ S) = nx ρ S := propext ⟨id, id⟩
theorem q_brk  : Rs (EndsD.mk nx rt bk ct ex) (ks sBrk ρ S) = bk ρ S := propext ⟨id, id⟩
theorem q_cont  : Rs (EndsD.mk nx rt bk ct ex) (ks sCont ρ S) = ct ρ S := propext ⟨id, id⟩
theorem q_expr {e : Rh → M D} : Rs (EndsD.mk nx rt bk ct ex) (ks (sExpr e) ρ S) = Rn (fun _ S' => nx ρ S') (fun x S' => ex x ρ S') (kt (e ρ) S) := propext ⟨id, id⟩
theorem q_sret {e : Rh → M D} : Rs (EndsD.mk nx rt bk ct ex) (ks (sRet e) ρ S) = Rn rt (fun x S' => ex x ρ S') (kt (e ρ) S) := propext ⟨id, id⟩
theorem q_sretN  : Rs (EndsD.mk nx rt bk ct ex) (ks sRetN ρ S) = rt .non S := propext ⟨id, id⟩
theorem q_if {c : Rh → M Bool} {a b : Sm} : Rs (EndsD.mk nx rt bk ct ex) (ks (sIf c a b) ρ S) = Rn (fun k S' => IteP (Rs (EndsD.mk nx rt bk ct ex) (ks a ρ S')) (Rs (EndsD.mk nx rt bk ct ex) (ks b ρ S')) (bf k)) (fun x S' => ex x ρ S') (kt (c ρ) S) := propext ⟨id, id⟩
theorem q_set {g : Tg} {e : Rh → M D} : Rs (EndsD.mk nx rt bk ct ex) (ks (sSet g e) ρ S) = Rn (fun d S' => g d ρ fun ρ' => nx ρ' S') (fun x S' => ex x ρ S') (kt (e ρ) S) := propext ⟨id, id⟩
theorem q_gT {t : Tgs} {ds : List D} {k : Rh → Prop} : gT t (.tup ds) ρ k = t ds ρ k := propext ⟨id, id⟩
theorem q_gs0 {k : Rh → Prop} : gsNil [] ρ k = k ρ := propext ⟨id, id⟩
theorem q_gs1 {t : Tg} {u : Tgs} {d : D} {r : List D} {k : Rh → Prop} : gsCons t u (d :: r) ρ k = t d ρ fun ρ' => u r ρ' k := propext ⟨id, id⟩
theorem q_for {it : Rh → M (List D)} {g : Tg} {b : Sm} : Rs (EndsD.mk nx rt bk ct ex) (ks (sFor it g b) ρ S) = Rn (fun ds S' => Lp (EndsD.mk nx rt bk ct ex) g b ρ S' (kl ds)) (fun x S' => ex x ρ S') (kt (it ρ) S) := propext ⟨id, id⟩
theorem q_raise {m : Rh → M Xn} : Rs (EndsD.mk nx rt bk ct ex) (ks (sRaise m) ρ S) = Rn (fun x S' => ex x ρ S') (fun x S' => ex x ρ S') (kt (m ρ) S) := propext ⟨id, id⟩
def srcK2 (x y v : D) (p : Prop) : Prop := match x, y, v with
  | .src, .int k, .int _ => (0 ≤ k ∧ k < 3) ∧ p
  | _, _, _ => False
theorem q_src {o i e : Rh → M D} : Rs (EndsD.mk nx rt bk ct ex) (ks (sSrc o i e) ρ S) = Rn (fun v S1 => Rn (fun x S2 => Rn (fun y S3 => srcK2 x y v (nx ρ S3)) (fun x S' => ex x ρ S') (kt (i ρ) S2)) (fun x S' => ex x ρ S') (kt (o ρ) S1)) (fun x S' => ex x ρ S') (kt (e ρ) S) := propext ⟨id, id⟩
theorem q_srcK {k j : Int} (h : 0 ≤ k ∧ k < 3) : srcK2 .src (.int k) (.int j) P = P := propext ⟨fun z => z.2, fun z => ⟨h, z⟩⟩
theorem q_bind {m : M α} {k : α → M β} {Q : β → Sv → Prop} : Rn Q E (kt (bind m k) S) = Rn (fun a S' => Rn Q E (kt (k a) S')) E (kt m S) := propext ⟨id, id⟩
theorem q_ret {a : α} {Q : α → Sv → Prop} : Rn Q E (kt (ret a) S) = Q a S := propext ⟨id, id⟩
theorem q_rse {x : Xn} {Q : α → Sv → Prop} : Rn Q E (kt (raise x) S) = E x S := propext ⟨id, id⟩
theorem q_need {c : Prop} {m : M α} {Q : α → Sv → Prop} (h : c) : Rn Q E (kt (need c m) S) = Rn Q E (kt m S) := (show need c m S Q E = m S Q E from propext ⟨fun z => z.2, fun z => ⟨h, z⟩⟩)
theorem q_noex {m : M α} {Q : α → Sv → Prop} : Rn Q E (kt (noex m) S) = Rn Q (fun _ _ => False) (kt m S) := propext ⟨id, id⟩
theorem q_iteM {c : Bool} {m n : M α} {Q : α → Sv → Prop} : Rn Q E (kt (iteM c m n) S) = IteP (Rn Q E (kt m S)) (Rn Q E (kt n S)) (bf c) := propext ⟨id, id⟩
theorem q_c {d : D} : Rn Q E (kt (cD d ρ) S) = Q d S := propext ⟨id, id⟩
theorem q_bin {f : D → D → M D} {a b : Rh → M D} : Rn Q E (kt (eBin f a b ρ) S) = Rn (fun x S1 => Rn (fun y S2 => Rn Q E (kt (f x y) S2)) E (kt (b ρ) S1)) E (kt (a ρ) S) := propext ⟨id, id⟩
theorem q_aN {Q : List D → Sv → Prop} : Rn Q E (kt (aNil ρ) S) = Q [] S := propext ⟨id, id⟩
theorem q_aC {a : Rh → M D} {b : Rh → M (List D)} {Q : List D → Sv → Prop} : Rn Q E (kt (aCons a b ρ) S) = Rn (fun x S1 => Rn (fun xs S2 => Q (x :: xs) S2) E (kt (b ρ) S1)) E (kt (a ρ) S) := propext ⟨id, id⟩
theorem q_asB {b : Bool} {Q : Bool → Sv → Prop} : Rn Q E (kt (asB (.bl b)) S) = Q b S := propext ⟨id, id⟩
theorem q_and {f : D → M Bool} {a b : Rh → M D} : Rn Q E (kt (eAnd f a b ρ) S) = Rn (fun x S1 => Rn (fun c S2 => IteP (Rn Q E (kt (b ρ) S2)) (Q x S2) (bf c)) E (kt (f x) S1)) E (kt (a ρ) S) := propext ⟨id, id⟩
theorem q_or {f : D → M Bool} {a b : Rh → M D} : Rn Q E (kt (eOr f a b ρ) S) = Rn (fun x S1 => Rn (fun c S2 => IteP (Q x S2) (Rn Q E (kt (b ρ) S2)) (bf c)) E (kt (f x) S1)) E (kt (a ρ) S) := propext ⟨id, id⟩
theorem q_not {f : D → M Bool} {a : Rh → M D} : Rn Q E (kt (eNot f a ρ) S) = Rn (fun x S1 => Rn (fun c S2 => Q (.bl (!c)) S2) E (kt (f x) S1)) E (kt (a ρ) S) := propext ⟨id, id⟩
theorem q_eif {c : Rh → M Bool} {a b : Rh → M D} : Rn Q E (kt (eIf c a b ρ) S) = Rn (fun k S' => IteP (Rn Q E (kt (a ρ) S')) (Rn Q E (kt (b ρ) S')) (bf k)) E (kt (c ρ) S) := propext ⟨id, id⟩
theorem q_bAnd {a b : Rh → M Bool} {Q : Bool → Sv → Prop} : Rn Q E (kt (bAnd a b ρ) S) = Rn (fun c S1 => IteP (Rn Q E (kt (b ρ) S1)) (Q false S1) (bf c)) E (kt (a ρ) S) := propext ⟨id, id⟩
theorem q_bOr {a b : Rh → M Bool} {Q : Bool → Sv → Prop} : Rn Q E (kt (bOr a b ρ) S) = Rn (fun c S1 => IteP (Q true S1) (Rn Q E (kt (b ρ) S1)) (bf c)) E (kt (a ρ) S) := propext ⟨id, id⟩
theorem q_bNot {a : Rh → M Bool} {Q : Bool → Sv → Prop} : Rn Q E (kt (bNot a ρ) S) = Rn (fun c S1 => Q (!c) S1) E (kt (a ρ) S) := propext ⟨id, id⟩
theorem q_bYes {Q : Bool → Sv → Prop} : Rn Q E (kt (bYes ρ) S) = Q true S := propext ⟨id, id⟩
theorem q_chain {f g : D → D → M D} {a b c : Rh → M D} : Rn Q E (kt (eChain f g a b c ρ) S) = Rn (fun x S1 => Rn (fun y S2 => Rn (fun r S3 => Rn (fun k S4 => IteP (Rn (fun z S5 => Rn Q E (kt (g y z) S5)) E (kt (c ρ) S4)) (Q (.bl false) S4) (bf k)) E (kt (asB r) S3)) E (kt (f x y) S2)) E (kt (b ρ) S1)) E (kt (a ρ) S) := propext ⟨id, id⟩
theorem q_sl {a : Rh → M D} {lo hi : Rh → M (Option Int)} : Rn Q E (kt (eSl a lo hi ρ) S) = Rn (fun x S1 => Rn (fun l S2 => Rn (fun r S3 => Rn Q E (kt (slD x l r) S3)) E (kt (hi ρ) S2)) E (kt (lo ρ) S1)) E (kt (a ρ) S) := propext ⟨id, id⟩
theorem q_oN {Q : Option Int → Sv → Prop} : Rn Q E (kt (oNone ρ) S) = Q none S := propext ⟨id, id⟩
theorem q_asI {i : Int} {Q : Option Int → Sv → Prop} : Rn Q E (kt (asI (.int i)) S) = Q (some i) S := propext ⟨id, id⟩
theorem q_lstM {ds : List D} (h : ds.length ≤ sizeLine) : Rn Q E (kt (lstM ds) S) = Q (.lst ds) S := (show lstM ds S Q E = Q (.lst ds) S from propext ⟨fun z => z.2, fun z => ⟨h, z⟩⟩)
theorem q_tupM {ds : List D} (h : ds.length ≤ sizeLine) : Rn Q E (kt (tupM ds) S) = Q (.tup ds) S := (show tupM ds S Q E = Q (.tup ds) S from propext ⟨fun z => z.2, fun z => ⟨h, z⟩⟩)
theorem q_srcM {i j k : Int} : Rn Q E (kt (srcM [.int i, .int j, .int k]) S) = Q .src S := propext ⟨id, id⟩
theorem q_ck {n m : Nat} {gD : List D → List D → List D} {F : List D → M D} {a kk : Rh → M (List D)} : Rn Q E (kt (eCK n m gD F a kk ρ) S) = Rn (fun ds S1 => Rn (fun es S2 => Rn Q E (kt (need (ds.length = n ∧ es.length = m) (F (gD ds es))) S2)) E (kt (kk ρ) S1)) E (kt (a ρ) S) := propext ⟨id, id⟩
theorem q_js0 {acc : Str} : Rn Q E (kt (eJs [] acc ρ) S) = Q (.str acc) S := propext ⟨id, id⟩
theorem q_js {m : Rh → M D} {ms : List (Rh → M D)} {acc : Str} : Rn Q E (kt (eJs (m :: ms) acc ρ) S) = Rn (fun x S1 => Rn Q E (kt (jsK ms acc ρ x) S1)) E (kt (m ρ) S) := propext ⟨id, id⟩
theorem q_jsK {ms : List (Rh → M D)} {acc y : Str} (hl : (acc ++ y).length ≤ sizeLine) : Rn Q E (kt (jsK ms acc ρ (.str y)) S) = Rn Q E (kt (eJs ms (acc ++ y) ρ) S) := (show jsK ms acc ρ (.str y) S Q E = eJs ms (acc ++ y) ρ S Q E from propext ⟨fun z => z.2, fun z => ⟨hl, z⟩⟩)
theorem q_orF {a : α} {Q : α → Sv → Prop} : Rn Q E (kt (orFail (some a)) S) = Q a S := propext ⟨id, id⟩
theorem q_asStr {z : Str} : Rn Q E (kt (asStr (.str z)) S) = Q (.str z) S := propext ⟨id, id⟩
theorem q_notB {b : Bool} : Rn Q E (kt (notB (.bl b)) S) = Q (.bl (!b)) S := propext ⟨id, id⟩
theorem q_inBf {b : Bool} : Rn Q E (kt (inB false (.bl b)) S) = Q (.bl b) S := (show inB false (.bl b) S Q E = Q (.bl b) S from by cases b <;> exact propext ⟨id, id⟩)
theorem q_inBt {b : Bool} : Rn Q E (kt (inB true (.bl b)) S) = Q (.bl (!b)) S := (show inB true (.bl b) S Q E = Q (.bl (!b)) S from by cases b <;> exact propext ⟨id, id⟩)
theorem q_sc1 {i : Int} : Rn Q E (kt (scal1 (.int i)) S) = Q (.int i) S := propext ⟨id, id⟩
theorem q_mt {T : String} {f : D → List D → M D} {o : Rh → M D} {a : Rh → M (List D)} : Rn Q E (kt (eMt T f o a ρ) S) = Rn (fun x S1 => Rn Q E (kt (mtK T f a ρ x) S1)) E (kt (o ρ) S) := propext ⟨id, id⟩
theorem q_mtS {f : D → List D → M D} {a : Rh → M (List D)} {z : Str} : Rn Q E (kt (mtK "str" f a ρ (.str z)) S) = Rn (fun ds S2 => Rn Q E (kt (f (.str z) ds) S2)) E (kt (a ρ) S) := propext ⟨id, id⟩
theorem q_mtI {f : D → List D → M D} {a : Rh → M (List D)} {z : Int} : Rn Q E (kt (mtK "int" f a ρ (.int z)) S) = Rn (fun ds S2 => Rn Q E (kt (f (.int z) ds) S2)) E (kt (a ρ) S) := propext ⟨id, id⟩
theorem q_mth {tbl : Fns} {m : Str} {o : Rh → M D} {a : Rh → M (List D)} : Rn Q E (kt (eMth tbl m o a ρ) S) = Rn (fun x S1 => Rn Q E (kt (mthK tbl m a ρ x) S1)) E (kt (o ρ) S) := propext ⟨id, id⟩
theorem q_mthKw {tbl : Fns} {m : Str} {nk : Nat} {gD : List D → List D → List D} {o : Rh → M D} {kk : Rh → M (List D)} : Rn Q E (kt (eMthK tbl m nk gD o kk ρ) S) = Rn (fun x S1 => Rn Q E (kt (mthKK tbl m nk gD kk ρ x) S1)) E (kt (o ρ) S) := propext ⟨id, id⟩
theorem q_iteT {p q : Prop} : IteP p q (bf true) = p := (show iteP true p q = p from by simp [iteP])
theorem q_iteF {p q : Prop} : IteP p q (bf false) = q := (show iteP false p q = q from by simp [iteP])
theorem q_iteN {c : Bool} {p q : Prop} : IteP p q (bf (!c)) = IteP q p (bf c) := (show iteP (!c) p q = iteP c q p from by cases c <;> simp [iteP])
theorem q_iteA {c d : Bool} {p q : Prop} : IteP p q (bf (c && d)) = IteP (IteP p q (bf d)) q (bf c) := (show iteP (c && d) p q = iteP c (iteP d p q) q from by cases c <;> cases d <;> simp [iteP])
theorem q_iteO {c d : Bool} {p q : Prop} : IteP p q (bf (c || d)) = IteP p (IteP p q (bf d)) (bf c) := (show iteP (c || d) p q = iteP c p (iteP d p q) from by cases c <;> cases d <;> simp [iteP])
theorem q_ite1 {c : Prop} [Decidable c] {p q : Prop} (h : c) : IteP p q (bf (decide c)) = p := (show iteP (decide c) p q = p from by simp [iteP, h])
theorem q_ite0 {c : Prop} [Decidable c] {p q : Prop} (h : ¬ c) : IteP p q (bf (decide c)) = q := (show iteP (decide c) p q = q from by simp [iteP, h])
theorem q_ttr {b : Bool} {Q : Bool → Sv → Prop} : Rn Q E (kt (truD (.bl b)) S) = Q b S := propext ⟨id, id⟩
theorem q_tnon {Q : Bool → Sv → Prop} : Rn Q E (kt (truD .non) S) = Q false S := propext ⟨id, id⟩
theorem q_tint {i : Int} {Q : Bool → Sv → Prop} : Rn Q E (kt (truD (.int i)) S) = Q (!decide (i = 0)) S := (show truD (.int i) S Q E = Q (!decide (i = 0)) S from by
  show Q (i != 0) S = _
  rw [show (i != 0) = !decide (i = 0) by by_cases h : i = 0 <;> simp [h]])
theorem q_tstr {z : Str} {Q : Bool → Sv → Prop} (h : z.length ≤ sizeLine) : Rn Q E (kt (truD (.str z)) S) = Q (!decide (z.length = 0)) S := (show truD (.str z) S Q E = Q (!decide (z.length = 0)) S from by
  rw [show truD (.str z) S Q E = (z.length ≤ sizeLine ∧ Q ((z.length : Int) != 0) S) from rfl]
  rw [show ((z.length : Int) != 0) = !decide (z.length = 0) by by_cases h : z.length = 0 <;> simp [h]]
  exact propext ⟨fun z => z.2, fun z => ⟨h, z⟩⟩)
theorem q_tlst {xs : List D} {Q : Bool → Sv → Prop} : Rn Q E (kt (truD (.lst xs)) S) = Q (!xs.isEmpty) S := propext ⟨id, id⟩
theorem q_ttup {xs : List D} {Q : Bool → Sv → Prop} : Rn Q E (kt (truD (.tup xs)) S) = Q (!xs.isEmpty) S := propext ⟨id, id⟩
theorem xf (b : Bool) : (false ^^ b) = b := by cases b <;> rfl
theorem xt (b : Bool) : (true ^^ b) = !b := by cases b <;> rfl
theorem q_eqI {i j : Int} : Rn Q E (kt (eqB false (.int i) (.int j)) S) = Q (.bl (decide (i = j))) S := (show eqB false (.int i) (.int j) S Q E = Q (.bl (decide (i = j))) S from by rw [← xf (decide (i = j))]; rfl)
theorem q_neI {i j : Int} : Rn Q E (kt (eqB true (.int i) (.int j)) S) = Q (.bl (!decide (i = j))) S := (show eqB true (.int i) (.int j) S Q E = Q (.bl (!decide (i = j))) S from by rw [← xt (decide (i = j))]; rfl)
theorem q_eqS {i j : Str} : Rn Q E (kt (eqB false (.str i) (.str j)) S) = Q (.bl (decide (i = j))) S := (show eqB false (.str i) (.str j) S Q E = Q (.bl (decide (i = j))) S from by rw [← xf (decide (i = j))]; rfl)
theorem q_neS {i j : Str} : Rn Q E (kt (eqB true (.str i) (.str j)) S) = Q (.bl (!decide (i = j))) S := (show eqB true (.str i) (.str j) S Q E = Q (.bl (!decide (i = j))) S from by rw [← xt (decide (i = j))]; rfl)
theorem q_eqB {i j : Bool} : Rn Q E (kt (eqB false (.bl i) (.bl j)) S) = Q (.bl (decide (i = j))) S := (show eqB false (.bl i) (.bl j) S Q E = Q (.bl (decide (i = j))) S from by rw [← xf (decide (i = j))]; rfl)
theorem q_neB {i j : Bool} : Rn Q E (kt (eqB true (.bl i) (.bl j)) S) = Q (.bl (!decide (i = j))) S := (show eqB true (.bl i) (.bl j) S Q E = Q (.bl (!decide (i = j))) S from by rw [← xt (decide (i = j))]; rfl)
theorem q_eqY {i j : Array UInt8} : Rn Q E (kt (eqB false (.byt i) (.byt j)) S) = Q (.bl (decide (i = j))) S := (show eqB false (.byt i) (.byt j) S Q E = Q (.bl (decide (i = j))) S from by rw [← xf (decide (i = j))]; rfl)
theorem q_neY {i j : Array UInt8} : Rn Q E (kt (eqB true (.byt i) (.byt j)) S) = Q (.bl (!decide (i = j))) S := (show eqB true (.byt i) (.byt j) S Q E = Q (.bl (!decide (i = j))) S from by rw [← xt (decide (i = j))]; rfl)
theorem q_eqNN {n : Bool} : Rn Q E (kt (eqB n .non .non) S) = Q (.bl (!n)) S := (show eqB n .non .non S Q E = Q (.bl (!n)) S from by cases n <;> exact propext ⟨id, id⟩)
theorem q_eqNI {n : Bool} {j : Int} : Rn Q E (kt (eqB n .non (.int j)) S) = Q (.bl n) S := propext ⟨id, id⟩
theorem q_eqIN {n : Bool} {j : Int} : Rn Q E (kt (eqB n (.int j) .non) S) = Q (.bl n) S := propext ⟨id, id⟩
theorem q_eqNS {n : Bool} {j : Str} : Rn Q E (kt (eqB n .non (.str j)) S) = Q (.bl n) S := propext ⟨id, id⟩
theorem q_eqSN {n : Bool} {j : Str} : Rn Q E (kt (eqB n (.str j) .non) S) = Q (.bl n) S := propext ⟨id, id⟩
theorem q_eqIS {n : Bool} {i : Int} {j : Str} : Rn Q E (kt (eqB n (.int i) (.str j)) S) = Q (.bl n) S := propext ⟨id, id⟩
theorem q_eqSI {n : Bool} {i : Int} {j : Str} : Rn Q E (kt (eqB n (.str j) (.int i)) S) = Q (.bl n) S := propext ⟨id, id⟩
theorem q_sub {i j : Int} : Rn Q E (kt (subD (.int i) (.int j)) S) = Q (.int (i - j)) S := propext ⟨id, id⟩
theorem q_add {i j : Int} : Rn Q E (kt (addD (.int i) (.int j)) S) = Q (.int (i + j)) S := propext ⟨id, id⟩
theorem q_iadd {i j : Int} : Rn Q E (kt (iaddD (.int i) (.int j)) S) = Q (.int (i + j)) S := propext ⟨id, id⟩
theorem q_addS {i j : Str} (h : i.length + j.length ≤ sizeLine) : Rn Q E (kt (addD (.str i) (.str j)) S) = Q (.str (i ++ j)) S := (show addD (.str i) (.str j) S Q E = Q (.str (i ++ j)) S from propext ⟨fun z => z.2, fun z => ⟨h, z⟩⟩)
theorem q_addY {i j : Array UInt8} (h : i.size + j.size ≤ 16777216) : Rn Q E (kt (addD (.byt i) (.byt j)) S) = Q (.byt (i ++ j)) S := (show addD (.byt i) (.byt j) S Q E = Q (.byt (i ++ j)) S from propext ⟨fun z => z.2, fun z => ⟨h, z⟩⟩)
theorem q_addL {i j : List D} (h : i.length + j.length ≤ sizeLine) : Rn Q E (kt (addD (.lst i) (.lst j)) S) = Q (.lst (i ++ j)) S := (show addD (.lst i) (.lst j) S Q E = Q (.lst (i ++ j)) S from propext ⟨fun z => z.2, fun z => ⟨h, z⟩⟩)
theorem q_addC {i j : List D} (h : i.length + j.length ≤ sizeLine) : Rn Q E (kt (addD (.scr i) (.lst j)) S) = Q (.lst (i ++ j)) S := (show addD (.scr i) (.lst j) S Q E = Q (.lst (i ++ j)) S from propext ⟨fun z => z.2, fun z => ⟨h, z⟩⟩)
theorem q_addT {i j : List D} (h : i.length + j.length ≤ sizeLine) : Rn Q E (kt (addD (.tup i) (.tup j)) S) = Q (.tup (i ++ j)) S := (show addD (.tup i) (.tup j) S Q E = Q (.tup (i ++ j)) S from propext ⟨fun z => z.2, fun z => ⟨h, z⟩⟩)
theorem q_mul {i j : Int} (h : cMul i j) : Rn Q E (kt (mulD (.int i) (.int j)) S) = Q (.int (i * j)) S := (show mulD (.int i) (.int j) S Q E = Q (.int (i * j)) S from propext ⟨fun z => z.2, fun z => ⟨h, z⟩⟩)
theorem q_mulL {xs : List D} {k : Int} (h : -(2 ^ 63) ≤ k ∧ k < 2 ^ 63 ∧ xs.length * k.toNat ≤ sizeLine) : Rn Q E (kt (mulD (.lst xs) (.int k)) S) = Q (.lst (List.replicate k.toNat xs).flatten) S := (show mulD (.lst xs) (.int k) S Q E = Q (.lst (List.replicate k.toNat xs).flatten) S from propext ⟨fun z => z.2, fun z => ⟨h, z⟩⟩)
theorem q_fdiv {i j : Int} (h : CDivW i j) : Rn Q E (kt (fdivD (.int i) (.int j)) S) = Q (.int (i / j)) S := (show fdivD (.int i) (.int j) S Q E = Q (.int (i / j)) S from propext ⟨fun z => z.2, fun z => ⟨h, z⟩⟩)
theorem q_mod {i j : Int} (h : 0 < j) : Rn Q E (kt (modD (.int i) (.int j)) S) = Q (.int (i % j)) S := (show modD (.int i) (.int j) S Q E = Q (.int (i % j)) S from propext ⟨fun z => z.2, fun z => ⟨h, z⟩⟩)
theorem q_pow {i j : Int} (h : CPow i j) : Rn Q E (kt (powD (.int i) (.int j)) S) = Q (.int (i ^ j.toNat)) S := (show powD (.int i) (.int j) S Q E = Q (.int (i ^ j.toNat)) S from propext ⟨fun z => z.2, fun z => ⟨h, z⟩⟩)
theorem q_shl {i j : Int} (h : CShl i j) : Rn Q E (kt (shlD (.int i) (.int j)) S) = Q (.int (i * 2 ^ j.toNat)) S := (show shlD (.int i) (.int j) S Q E = Q (.int (i * 2 ^ j.toNat)) S from propext ⟨fun z => z.2, fun z => ⟨h, z⟩⟩)
theorem q_shr {i j : Int} (h : 0 ≤ j) : Rn Q E (kt (shrD (.int i) (.int j)) S) = Q (.int (i / 2 ^ j.toNat)) S := (show shrD (.int i) (.int j) S Q E = Q (.int (i / 2 ^ j.toNat)) S from propext ⟨fun z => z.2, fun z => ⟨h, z⟩⟩)
theorem q_band {i j : Int} : Rn Q E (kt (andD (.int i) (.int j)) S) = Q (.int (Builtin.bitAnd i j)) S := propext ⟨id, id⟩
theorem q_bor {i j : Int} : Rn Q E (kt (orD (.int i) (.int j)) S) = Q (.int (Builtin.bitOr i j)) S := propext ⟨id, id⟩
theorem q_bxor {i j : Int} : Rn Q E (kt (xorD (.int i) (.int j)) S) = Q (.int (Builtin.bitXor i j)) S := propext ⟨id, id⟩
theorem q_neg {i : Int} : Rn Q E (kt (negD (.int i)) S) = Q (.int (-i)) S := propext ⟨id, id⟩
theorem q_lt {i j : Int} : Rn Q E (kt (ltD (.int i) (.int j)) S) = Q (.bl (decide (i < j))) S := propext ⟨id, id⟩
theorem q_le {i j : Int} : Rn Q E (kt (leD (.int i) (.int j)) S) = Q (.bl (decide (i ≤ j))) S := propext ⟨id, id⟩
theorem q_gt {i j : Int} : Rn Q E (kt (gtD (.int i) (.int j)) S) = Q (.bl (decide (j < i))) S := propext ⟨id, id⟩
theorem q_ge {i j : Int} : Rn Q E (kt (geD (.int i) (.int j)) S) = Q (.bl (decide (j ≤ i))) S := propext ⟨id, id⟩
theorem q_isN {n : Bool} : Rn Q E (kt (isD n .non .non) S) = Q (.bl (!n)) S := (show isD n .non .non S Q E = Q (.bl (!n)) S from by cases n <;> exact propext ⟨id, id⟩)
theorem q_isI {n : Bool} {i : Int} : Rn Q E (kt (isD n (.int i) .non) S) = Q (.bl n) S := (show isD n (.int i) .non S Q E = Q (.bl n) S from by cases n <;> exact propext ⟨id, id⟩)
theorem q_isS {n : Bool} {i : Str} : Rn Q E (kt (isD n (.str i) .non) S) = Q (.bl n) S := (show isD n (.str i) .non S Q E = Q (.bl n) S from by cases n <;> exact propext ⟨id, id⟩)
theorem q_isB {n : Bool} {i : Bool} : Rn Q E (kt (isD n (.bl i) .non) S) = Q (.bl n) S := (show isD n (.bl i) .non S Q E = Q (.bl n) S from by cases n <;> exact propext ⟨id, id⟩)
theorem q_isL {n : Bool} {i : List D} : Rn Q E (kt (isD n (.lst i) .non) S) = Q (.bl n) S := (show isD n (.lst i) .non S Q E = Q (.bl n) S from by cases n <;> exact propext ⟨id, id⟩)
theorem q_isTp {n : Bool} {i : List D} : Rn Q E (kt (isD n (.tup i) .non) S) = Q (.bl n) S := (show isD n (.tup i) .non S Q E = Q (.bl n) S from by cases n <;> exact propext ⟨id, id⟩)
theorem q_isO {n : Bool} {c : Str} {i : List Str} {j : List D} : Rn Q E (kt (isD n (.ins c i j) .non) S) = Q (.bl n) S := (show isD n (.ins c i j) .non S Q E = Q (.bl n) S from by cases n <;> exact propext ⟨id, id⟩)
theorem q_itL {xs : List D} {Q : List D → Sv → Prop} : Rn Q E (kt (itD (.lst xs)) S) = Q xs S := propext ⟨id, id⟩
theorem q_itT {xs : List D} {Q : List D → Sv → Prop} : Rn Q E (kt (itD (.tup xs)) S) = Q xs S := propext ⟨id, id⟩
theorem q_itS {z : Str} {Q : List D → Sv → Prop} : Rn Q E (kt (itD (.str z)) S) = Q (signs z) S := propext ⟨id, id⟩
theorem q_rng1 {j : Int} {Q : List D → Sv → Prop} (h : -(2 ^ 62) ≤ j ∧ j < 2 ^ 62) : Rn Q E (kt (rng1D [.int j]) S) = Q (rngL 0 j.toNat) S := (show rng1D [.int j] S Q E = Q (rngL 0 j.toNat) S from propext ⟨fun z => z.2, fun z => ⟨h, z⟩⟩)
theorem q_rng2 {i j : Int} {Q : List D → Sv → Prop} (h : -(2 ^ 62) ≤ i ∧ i < 2 ^ 62 ∧ -(2 ^ 62) ≤ j ∧ j < 2 ^ 62) : Rn Q E (kt (rng2D [.int i, .int j]) S) = Q (rngL i (j - i).toNat) S := (show rng2D [.int i, .int j] S Q E = Q (rngL i (j - i).toNat) S from propext ⟨fun z => z.2, fun z => ⟨h, z⟩⟩)
theorem q_rng3 {i j c : Int} {Q : List D → Sv → Prop} (h : c = -1 ∧ -(2 ^ 62) ≤ i ∧ i < 2 ^ 62 ∧ -(2 ^ 62) ≤ j ∧ j < 2 ^ 62) : Rn Q E (kt (rng3D [.int i, .int j, .int c]) S) = Q (rngC i (-1) (i - j).toNat) S := (show rng3D [.int i, .int j, .int c] S Q E = Q (rngC i (-1) (i - j).toNat) S from propext ⟨fun z => z.2, fun z => ⟨h, z⟩⟩)
theorem q_tab {x q : Str} {Q : List D → Sv → Prop} (h : Cell.tb x q ∈ S) : Rn Q E (kt (tabM x q) S) = Q [] S := (show tabM x q S Q E = Q [] S from propext ⟨fun z => z.2, fun z => ⟨h, z⟩⟩)
theorem q_act0 {m : M D} {ρ : Rh} : Rn Q E (kt (actM 0 m (.fn :: ρ)) S) = Rn Q E (kt m S) := propext ⟨id, id⟩
theorem q_act1 {m : M D} {ρ : Rh} {x0 : Sl} : Rn Q E (kt (actM 1 m (x0 :: .fn :: ρ)) S) = Rn Q E (kt m S) := propext ⟨id, id⟩
theorem q_act2 {m : M D} {ρ : Rh} {x0 x1 : Sl} : Rn Q E (kt (actM 2 m (x0 :: x1 :: .fn :: ρ)) S) = Rn Q E (kt m S) := propext ⟨id, id⟩
theorem q_actV0 {ρ : Rh} {Q : List D → Sv → Prop} : Rn Q E (kt (actV 0 (.fn :: ρ)) S) = Q [] S := propext ⟨id, id⟩
theorem q_actV1 {ρ : Rh} {x0 : Sl} {Q : List D → Sv → Prop} : Rn Q E (kt (actV 1 (x0 :: .fn :: ρ)) S) = Q [] S := propext ⟨id, id⟩
theorem q_actV2 {ρ : Rh} {x0 x1 : Sl} {Q : List D → Sv → Prop} : Rn Q E (kt (actV 2 (x0 :: x1 :: .fn :: ρ)) S) = Q [] S := propext ⟨id, id⟩
theorem q_lcount6 {a b c d e f k : Bool} : Rn Q E (kt (lcountD (.lst [.bl a, .bl b, .bl c, .bl d, .bl e, .bl f]) [.bl k]) S) = Q (.int (cntB k [a, b, c, d, e, f])) S := propext ⟨id, id⟩
theorem q_lindex {xs : List D} {k : Int} : Rn Q E (kt (lindexD (.lst xs) [.int k]) S) = Rn Q E (kt (orFail (((intsL xs).bind (idxI k)).map fun j : Nat => D.int (j : Int))) S) := propext ⟨id, id⟩
theorem q_dct1 {c : Int} {z : Str} : Rn Q E (kt (dct1 c (.str z)) S) = Q (.dct [.str z] [.int c]) S := propext ⟨id, id⟩
theorem z_cn0 {k : Bool} : cntB k [] = 0 := rfl
theorem z_cnT {r : List Bool} : cntB true (true :: r) = 1 + cntB true r := rfl
theorem z_cnF {r : List Bool} : cntB true (false :: r) = cntB true r := rfl
theorem q_bits {i : Int} : Rn Q E (kt (bitsD (.int i) []) S) = Q (.int (Builtin.Int.intBits i : Nat)) S := propext ⟨id, id⟩
theorem q_catM {xs ys : List D} {Q : List D → Sv → Prop} (h : xs.length + ys.length ≤ sizeLine) : Rn Q E (kt (catM (.lst xs) (.lst ys)) S) = Q (xs ++ ys) S := (show catM (.lst xs) (.lst ys) S Q E = Q (xs ++ ys) S from propext ⟨fun z => z.2, fun z => ⟨h, z⟩⟩)
theorem q_aCat {a b : Rh → M D} {Q : List D → Sv → Prop} : Rn Q E (kt (aCat a b ρ) S) = Rn (fun x S1 => Rn (fun y S2 => Rn Q E (kt (catM x y) S2)) E (kt (b ρ) S1)) E (kt (a ρ) S) := propext ⟨id, id⟩
theorem q_listY {b : Array UInt8} (h : b.size ≤ sizeLine) : Rn Q E (kt (listE [.byt b]) S) = Q (.lst ((bi b).map .int)) S := (show listE [.byt b] S Q E = Q (.lst ((bi b).map .int)) S from propext ⟨fun z => z.2, fun z => ⟨h, z⟩⟩)
theorem q_enum {xs : List D} {Q : List D → Sv → Prop} : Rn Q E (kt (enumD [.lst xs]) S) = Q (enumL xs) S := propext ⟨id, id⟩
theorem q_zip {xs ys : List D} {Q : List D → Sv → Prop} : Rn Q E (kt (zip2D [.lst xs, .lst ys]) S) = Q (zipD xs ys) S := propext ⟨id, id⟩
theorem q_ixSrc {i : Int} (h : 0 ≤ i ∧ i < 3) : Rn Q E (kt (ixD .src (.int i)) S) = ∀ k : Int, Q (.int k) S := (show ixD .src (.int i) S Q E = ∀ k : Int, Q (.int k) S from propext ⟨fun z => z.2, fun z => ⟨h, z⟩⟩)
theorem q_slL {xs : List D} {l r : Option Int} : Rn Q E (kt (slD (.lst xs) l r) S) = Q (.lst (cutD xs l r)) S := propext ⟨id, id⟩
theorem q_slC {xs : List D} {l r : Option Int} : Rn Q E (kt (slD (.scr xs) l r) S) = Q (.lst (cutD xs l r)) S := propext ⟨id, id⟩
theorem q_slT {xs : List D} {l r : Option Int} : Rn Q E (kt (slD (.tup xs) l r) S) = Q (.tup (cutD xs l r)) S := propext ⟨id, id⟩
theorem q_slS {z : Str} {l r : Option Int} (h : z.length ≤ sizeLine) : Rn Q E (kt (slD (.str z) l r) S) = Q (.str (cutS z l r)) S := (show slD (.str z) l r S Q E = Q (.str (cutS z l r)) S from propext ⟨fun z => z.2, fun z => ⟨h, z⟩⟩)
theorem q_revS {z : Str} (h : z.length ≤ sizeLine) : Rn Q E (kt (revSD (.str z)) S) = Q (.str (revS z)) S := (show revSD (.str z) S Q E = Q (.str (revS z)) S from propext ⟨fun z => z.2, fun z => ⟨h, z⟩⟩)
theorem q_lenL {xs : List D} : Rn Q E (kt (lenD [.lst xs]) S) = Q (.int xs.length) S := propext ⟨id, id⟩
theorem q_lenC {xs : List D} : Rn Q E (kt (lenD [.scr xs]) S) = Q (.int xs.length) S := propext ⟨id, id⟩
theorem q_lenT {xs : List D} : Rn Q E (kt (lenD [.tup xs]) S) = Q (.int xs.length) S := propext ⟨id, id⟩
theorem q_lenS {z : Str} (h : z.length ≤ sizeLine) : Rn Q E (kt (lenD [.str z]) S) = Q (.int z.length) S := (show lenD [.str z] S Q E = Q (.int z.length) S from propext ⟨fun z => z.2, fun z => ⟨h, z⟩⟩)
theorem q_lenY {b : Array UInt8} (h : b.size ≤ sizeLine) : Rn Q E (kt (lenD [.byt b]) S) = Q (.int b.size) S := (show lenD [.byt b] S Q E = Q (.int b.size) S from propext ⟨fun z => z.2, fun z => ⟨h, z⟩⟩)
theorem q_intI {i : Int} : Rn Q E (kt (intD [.int i]) S) = Q (.int i) S := propext ⟨id, id⟩
theorem q_intB {b : Bool} : Rn Q E (kt (intD [.bl b]) S) = Q (.int (if b then 1 else 0)) S := propext ⟨id, id⟩
theorem q_boolI {i : Int} : Rn Q E (kt (boolD [.int i]) S) = Q (.bl (!decide (i = 0))) S := (show boolD [.int i] S Q E = Q (.bl (!decide (i = 0))) S from by
  show Q (.bl (i != 0)) S = _
  rw [show (i != 0) = !decide (i = 0) by by_cases h : i = 0 <;> simp [h]])
theorem q_boolB {b : Bool} : Rn Q E (kt (boolD [.bl b]) S) = Q (.bl b) S := propext ⟨id, id⟩
theorem q_max2 {i j : Int} : Rn Q E (kt (maxD [.int i, .int j]) S) = Q (.int (max i j)) S := (show maxD [.int i, .int j] S Q E = Q (.int (max i j)) S from by
  show Q (.int (if j > i then j else i)) S = _
  rw [show (if j > i then j else i) = max i j by by_cases h : i < j <;> simp [h] <;> omega])
theorem q_min2 {i j : Int} : Rn Q E (kt (minD [.int i, .int j]) S) = Q (.int (min i j)) S := (show minD [.int i, .int j] S Q E = Q (.int (min i j)) S from by
  show Q (.int (if j < i then j else i)) S = _
  rw [show (if j < i then j else i) = min i j by by_cases h : j < i <;> simp [h] <;> omega])
theorem q_maxL {xs : List D} : Rn Q E (kt (maxD [.lst xs]) S) = Rn Q E (kt (orFail (((intsL xs).bind maxL).map .int)) S) := propext ⟨id, id⟩
theorem q_minL {xs : List D} : Rn Q E (kt (minD [.lst xs]) S) = Rn Q E (kt (orFail (((intsL xs).bind minL).map .int)) S) := propext ⟨id, id⟩
theorem q_sum {xs : List D} : Rn Q E (kt (sumD [.lst xs]) S) = Rn Q E (kt (orFail ((intsL xs).map fun ns => .int ns.sum)) S) := propext ⟨id, id⟩
theorem q_listL {xs : List D} : Rn Q E (kt (listD [.lst xs]) S) = Q (.lst xs) S := propext ⟨id, id⟩
theorem q_listT {xs : List D} : Rn Q E (kt (listD [.tup xs]) S) = Q (.lst xs) S := propext ⟨id, id⟩
theorem q_tupL {xs : List D} : Rn Q E (kt (tupleD [.lst xs]) S) = Q (.tup xs) S := propext ⟨id, id⟩
theorem q_tupT {xs : List D} : Rn Q E (kt (tupleD [.tup xs]) S) = Q (.tup xs) S := propext ⟨id, id⟩
theorem q_inSf {a b : Str} : Rn Q E (kt (inD false (.str a) (.str b)) S) = Q (.bl (inStr a b)) S := (show inD false (.str a) (.str b) S Q E = Q (.bl (inStr a b)) S from by rw [← xf (inStr a b)]; rfl)
theorem q_inSt {a b : Str} : Rn Q E (kt (inD true (.str a) (.str b)) S) = Q (.bl (!inStr a b)) S := (show inD true (.str a) (.str b) S Q E = Q (.bl (!inStr a b)) S from by rw [← xt (inStr a b)]; rfl)
theorem q_startswith {a b : Str} : Rn Q E (kt (startswithD (.str a) [.str b]) S) = Q (.bl (Txt.startswith a b)) S := (show startswithD (.str a) [.str b] S Q E = Q (.bl (Txt.startswith a b)) S from propext ⟨fun z => z.2, fun z => ⟨trivial, z⟩⟩)
theorem q_endswith {a b : Str} : Rn Q E (kt (endswithD (.str a) [.str b]) S) = Q (.bl (Txt.endswith a b)) S := (show endswithD (.str a) [.str b] S Q E = Q (.bl (Txt.endswith a b)) S from propext ⟨fun z => z.2, fun z => ⟨trivial, z⟩⟩)
theorem q_find {a b : Str} : Rn Q E (kt (findD (.str a) [.str b]) S) = Q (.int (Txt.find a b)) S := (show findD (.str a) [.str b] S Q E = Q (.int (Txt.find a b)) S from propext ⟨fun z => z.2, fun z => ⟨trivial, z⟩⟩)
theorem q_rfind {a b : Str} : Rn Q E (kt (rfindD (.str a) [.str b]) S) = Q (.int (Txt.rfind a b)) S := (show rfindD (.str a) [.str b] S Q E = Q (.int (Txt.rfind a b)) S from propext ⟨fun z => z.2, fun z => ⟨trivial, z⟩⟩)
theorem q_count {a b : Str} : Rn Q E (kt (countD (.str a) [.str b]) S) = Q (.int (Txt.count a b)) S := (show countD (.str a) [.str b] S Q E = Q (.int (Txt.count a b)) S from propext ⟨fun z => z.2, fun z => ⟨trivial, z⟩⟩)
theorem q_rstrip {a b : Str} (h : a.length ≤ sizeLine) : Rn Q E (kt (rstripD (.str a) [.str b]) S) = Q (.str (Txt.rstripChars a b)) S := (show rstripD (.str a) [.str b] S Q E = Q (.str (Txt.rstripChars a b)) S from propext ⟨fun z => z.2, fun z => ⟨h, z⟩⟩)
theorem q_lower {a : Str} (h : a.length ≤ 5592405) : Rn Q E (kt (lowerD (.str a) []) S) = Q (.str (Txt.lower a)) S := (show lowerD (.str a) [] S Q E = Q (.str (Txt.lower a)) S from propext ⟨fun z => z.2, fun z => ⟨h, z⟩⟩)
theorem q_upper {a : Str} (h : a.length ≤ 5592405) : Rn Q E (kt (upperD (.str a) []) S) = Q (.str (Txt.upper a)) S := (show upperD (.str a) [] S Q E = Q (.str (Txt.upper a)) S from propext ⟨fun z => z.2, fun z => ⟨h, z⟩⟩)
theorem q_split {a b : Str} (h : (b.length == 0) = false) (h2 : a.length + 2 ≤ sizeLine) : Rn Q E (kt (splitD (.str a) [.str b]) S) = Q (.lst ((Txt.split a b).map .str)) S := (show splitD (.str a) [.str b] S Q E = Q (.lst ((Txt.split a b).map .str)) S from propext ⟨fun z => z.2, fun z => ⟨⟨h, h2⟩, z⟩⟩)
theorem q_part {a b : Str} (h : (b.length == 0) = false) (h2 : a.length ≤ sizeLine) : Rn Q E (kt (partD (.str a) [.str b]) S) = Q (.tup [.str (Txt.partition a b).1, .str (Txt.partition a b).2.1, .str (Txt.partition a b).2.2]) S := (show partD (.str a) [.str b] S Q E = Q (.tup [.str (Txt.partition a b).1, .str (Txt.partition a b).2.1, .str (Txt.partition a b).2.2]) S from propext ⟨fun z => z.2, fun z => ⟨⟨h, h2⟩, z⟩⟩)
theorem q_index {a b : Str} : Rn Q E (kt (indexD (.str a) [.str b]) S) = Rn Q E (kt (orFail ((Txt.index0 a b).map fun k => .int (k : Nat))) S) := propext ⟨id, id⟩
theorem q_strI {tbl : Fns} {i : Int} (h : i.natAbs.log2 < 1920) : Rn Q E (kt (strD tbl [.int i]) S) = Q (.str (toString i)) S := (show strD tbl [.int i] S Q E = Q (.str (toString i)) S from propext ⟨fun z => z.2, fun z => ⟨h, z⟩⟩)
theorem q_fmtI {tbl : Fns} {i : Int} (h : i.natAbs.log2 < 1920) : Rn Q E (kt (fmtD tbl (.int i)) S) = Q (.str (toString i)) S := (show fmtD tbl (.int i) S Q E = Q (.str (toString i)) S from propext ⟨fun z => z.2, fun z => ⟨h, z⟩⟩)
theorem q_fmtS {tbl : Fns} {z : Str} (h : z.length ≤ sizeLine) : Rn Q E (kt (fmtD tbl (.str z)) S) = Q (.str z) S := (show fmtD tbl (.str z) S Q E = Q (.str z) S from propext ⟨fun z => z.2, fun z => ⟨h, z⟩⟩)
theorem q_hex {F : Nat → Str} {i : Int} (h : 0 ≤ i) (h2 : (F i.toNat).length ≤ sizeLine) : Rn Q E (kt (hexD F (.int i)) S) = Q (.str (F i.toNat)) S := (show hexD F (.int i) S Q E = Q (.str (F i.toNat)) S from propext ⟨fun z => z.2, fun z => ⟨⟨h, h2⟩, z⟩⟩)
theorem q_hexN {F : Nat → Str} {i : Nat} (h2 : (F i).length ≤ sizeLine) : Rn Q E (kt (hexD F (.int (i : Int))) S) = Q (.str (F i)) S := (show hexD F (.int (i : Int)) S Q E = Q (.str (F i)) S from propext ⟨fun z => z.2, fun z => ⟨⟨Int.natCast_nonneg i, h2⟩, z⟩⟩)
theorem q_toB {n k : Int} (hk : 0 ≤ k ∧ k ≤ 1000) (h0 : 0 ≤ n) (h1 : n < 256 ^ k.toNat) : Rn Q E (kt (toBD (.int n) [.int k, .str ("big" : Str)]) S) = Q (.byt (packA k.toNat n)) S := (show toBD (.int n) [.int k, .str ("big" : Str)] S Q E = Q (.byt (packA k.toNat n)) S from propext ⟨fun z => z.2, fun z => ⟨⟨rfl, hk, h0, h1⟩, z⟩⟩)
theorem q_fromB {b : Array UInt8} (h : b.size ≤ 1000) : Rn Q E (kt (fromBD [.byt b, .str ("big" : Str)]) S) = Q (.int (KFB.value (KBw.bInts b))) S := (show fromBD [.byt b, .str ("big" : Str)] S Q E = Q (.int (KFB.value (KBw.bInts b))) S from propext ⟨fun z => z.2, fun z => ⟨⟨rfl, h⟩, z⟩⟩)
theorem q_ownOI {tbl : Fns} {cs : List Str} {base : D → D → M D} {i : Int} {b : D} : Rn Q E (kt (ownOp tbl cs base (.int i) b) S) = Rn Q E (kt (base (.int i) b) S) := propext ⟨id, id⟩
theorem q_ownOS {tbl : Fns} {cs : List Str} {base : D → D → M D} {i : Str} {b : D} : Rn Q E (kt (ownOp tbl cs base (.str i) b) S) = Rn Q E (kt (base (.str i) b) S) := propext ⟨id, id⟩
theorem q_ownON {tbl : Fns} {cs : List Str} {base : D → D → M D} {b : D} : Rn Q E (kt (ownOp tbl cs base .non b) S) = Rn Q E (kt (base .non b) S) := propext ⟨id, id⟩
theorem q_ownOB {tbl : Fns} {cs : List Str} {base : D → D → M D} {i : Bool} {b : D} : Rn Q E (kt (ownOp tbl cs base (.bl i) b) S) = Rn Q E (kt (base (.bl i) b) S) := propext ⟨id, id⟩
theorem q_ownOY {tbl : Fns} {cs : List Str} {base : D → D → M D} {i : Array UInt8} {b : D} : Rn Q E (kt (ownOp tbl cs base (.byt i) b) S) = Rn Q E (kt (base (.byt i) b) S) := propext ⟨id, id⟩
theorem q_ownOL {tbl : Fns} {cs : List Str} {base : D → D → M D} {i : List D} {b : D} : Rn Q E (kt (ownOp tbl cs base (.lst i) b) S) = Rn Q E (kt (base (.lst i) b) S) := propext ⟨id, id⟩
theorem q_ownOT {tbl : Fns} {cs : List Str} {base : D → D → M D} {i : List D} {b : D} : Rn Q E (kt (ownOp tbl cs base (.tup i) b) S) = Rn Q E (kt (base (.tup i) b) S) := propext ⟨id, id⟩
theorem q_ownNI {tbl : Fns} {cs : List Str} {base : D → D → M D} {i : Int} {b : D} : Rn Q E (kt (ownNe tbl cs base (.int i) b) S) = Rn Q E (kt (base (.int i) b) S) := propext ⟨id, id⟩
theorem q_ownNS {tbl : Fns} {cs : List Str} {base : D → D → M D} {i : Str} {b : D} : Rn Q E (kt (ownNe tbl cs base (.str i) b) S) = Rn Q E (kt (base (.str i) b) S) := propext ⟨id, id⟩
theorem q_ownNN {tbl : Fns} {cs : List Str} {base : D → D → M D} {b : D} : Rn Q E (kt (ownNe tbl cs base .non b) S) = Rn Q E (kt (base .non b) S) := propext ⟨id, id⟩
theorem q_ownNB {tbl : Fns} {cs : List Str} {base : D → D → M D} {i : Bool} {b : D} : Rn Q E (kt (ownNe tbl cs base (.bl i) b) S) = Rn Q E (kt (base (.bl i) b) S) := propext ⟨id, id⟩
theorem q_ownNY {tbl : Fns} {cs : List Str} {base : D → D → M D} {i : Array UInt8} {b : D} : Rn Q E (kt (ownNe tbl cs base (.byt i) b) S) = Rn Q E (kt (base (.byt i) b) S) := propext ⟨id, id⟩
theorem q_ownNL {tbl : Fns} {cs : List Str} {base : D → D → M D} {i : List D} {b : D} : Rn Q E (kt (ownNe tbl cs base (.lst i) b) S) = Rn Q E (kt (base (.lst i) b) S) := propext ⟨id, id⟩
theorem q_ownNT {tbl : Fns} {cs : List Str} {base : D → D → M D} {i : List D} {b : D} : Rn Q E (kt (ownNe tbl cs base (.tup i) b) S) = Rn Q E (kt (base (.tup i) b) S) := propext ⟨id, id⟩
theorem q_ownIL {tbl : Fns} {n : Bool} {base : D → D → M D} {x : D} {i : List D} : Rn Q E (kt (ownIn tbl n base x (.lst i)) S) = Rn Q E (kt (base x (.lst i)) S) := propext ⟨id, id⟩
theorem q_ownIT {tbl : Fns} {n : Bool} {base : D → D → M D} {x : D} {i : List D} : Rn Q E (kt (ownIn tbl n base x (.tup i)) S) = Rn Q E (kt (base x (.tup i)) S) := propext ⟨id, id⟩
theorem q_ownIS {tbl : Fns} {n : Bool} {base : D → D → M D} {x : D} {i : Str} : Rn Q E (kt (ownIn tbl n base x (.str i)) S) = Rn Q E (kt (base x (.str i)) S) := propext ⟨id, id⟩
theorem q_ownXL {tbl : Fns} {base : D → D → M D} {x : D} {i : List D} : Rn Q E (kt (ownIx tbl base (.lst i) x) S) = Rn Q E (kt (base (.lst i) x) S) := propext ⟨id, id⟩
theorem q_ownXC {tbl : Fns} {base : D → D → M D} {x : D} {i : List D} : Rn Q E (kt (ownIx tbl base (.scr i) x) S) = Rn Q E (kt (base (.scr i) x) S) := propext ⟨id, id⟩
theorem q_ixC {xs : List D} {i : Int} : Rn Q E (kt (ixD (.scr xs) (.int i)) S) = Rn Q E (kt (orFail (atI xs i)) S) := propext ⟨id, id⟩
theorem q_ownXT {tbl : Fns} {base : D → D → M D} {x : D} {i : List D} : Rn Q E (kt (ownIx tbl base (.tup i) x) S) = Rn Q E (kt (base (.tup i) x) S) := propext ⟨id, id⟩
theorem q_ownXS {tbl : Fns} {base : D → D → M D} {x : D} {i : Str} : Rn Q E (kt (ownIx tbl base (.str i) x) S) = Rn Q E (kt (base (.str i) x) S) := propext ⟨id, id⟩
theorem q_comp0 {g : Tg} {t : Rh → M Bool} {e : Rh → M D} {Q : List D → Sv → Prop} : Lc Q E g t e ρ S (kc []) = Q [] S := propext ⟨id, id⟩
theorem q_compS0 {g : Tg} {t : Rh → M Bool} {e : Rh → M D} {d : D} {Q : List D → Sv → Prop} : Lc Q E g t e ρ S (kc [d]) = g d ρ fun ρ' => Rn (fun b S1 => IteP (Rn (fun x S2 => Lc (fun xs S3 => Q (x :: xs) S3) E g t e ρ S2 (kc [])) E (kt (e ρ') S1)) (Lc Q E g t e ρ S1 (kc [])) (bf b)) E (kt (t ρ') S) := propext ⟨id, id⟩
theorem q_compS1 {g : Tg} {t : Rh → M Bool} {e : Rh → M D} {d e0 : D} {Q : List D → Sv → Prop} : Lc Q E g t e ρ S (kc [d, e0]) = g d ρ fun ρ' => Rn (fun b S1 => IteP (Rn (fun x S2 => Lc (fun xs S3 => Q (x :: xs) S3) E g t e ρ S2 (kc [e0])) E (kt (e ρ') S1)) (Lc Q E g t e ρ S1 (kc [e0])) (bf b)) E (kt (t ρ') S) := propext ⟨id, id⟩
theorem q_compS2 {g : Tg} {t : Rh → M Bool} {e : Rh → M D} {d e0 e1 : D} {Q : List D → Sv → Prop} : Lc Q E g t e ρ S (kc [d, e0, e1]) = g d ρ fun ρ' => Rn (fun b S1 => IteP (Rn (fun x S2 => Lc (fun xs S3 => Q (x :: xs) S3) E g t e ρ S2 (kc [e0, e1])) E (kt (e ρ') S1)) (Lc Q E g t e ρ S1 (kc [e0, e1])) (bf b)) E (kt (t ρ') S) := propext ⟨id, id⟩
theorem q_compS3 {g : Tg} {t : Rh → M Bool} {e : Rh → M D} {d e0 e1 e2 : D} {Q : List D → Sv → Prop} : Lc Q E g t e ρ S (kc [d, e0, e1, e2]) = g d ρ fun ρ' => Rn (fun b S1 => IteP (Rn (fun x S2 => Lc (fun xs S3 => Q (x :: xs) S3) E g t e ρ S2 (kc [e0, e1, e2])) E (kt (e ρ') S1)) (Lc Q E g t e ρ S1 (kc [e0, e1, e2])) (bf b)) E (kt (t ρ') S) := propext ⟨id, id⟩
theorem q_compS4 {g : Tg} {t : Rh → M Bool} {e : Rh → M D} {d e0 e1 e2 e3 : D} {Q : List D → Sv → Prop} : Lc Q E g t e ρ S (kc [d, e0, e1, e2, e3]) = g d ρ fun ρ' => Rn (fun b S1 => IteP (Rn (fun x S2 => Lc (fun xs S3 => Q (x :: xs) S3) E g t e ρ S2 (kc [e0, e1, e2, e3])) E (kt (e ρ') S1)) (Lc Q E g t e ρ S1 (kc [e0, e1, e2, e3])) (bf b)) E (kt (t ρ') S) := propext ⟨id, id⟩
theorem q_compS5 {g : Tg} {t : Rh → M Bool} {e : Rh → M D} {d e0 e1 e2 e3 e4 : D} {Q : List D → Sv → Prop} : Lc Q E g t e ρ S (kc [d, e0, e1, e2, e3, e4]) = g d ρ fun ρ' => Rn (fun b S1 => IteP (Rn (fun x S2 => Lc (fun xs S3 => Q (x :: xs) S3) E g t e ρ S2 (kc [e0, e1, e2, e3, e4])) E (kt (e ρ') S1)) (Lc Q E g t e ρ S1 (kc [e0, e1, e2, e3, e4])) (bf b)) E (kt (t ρ') S) := propext ⟨id, id⟩
theorem q_compS6 {g : Tg} {t : Rh → M Bool} {e : Rh → M D} {d e0 e1 e2 e3 e4 e5 : D} {Q : List D → Sv → Prop} : Lc Q E g t e ρ S (kc [d, e0, e1, e2, e3, e4, e5]) = g d ρ fun ρ' => Rn (fun b S1 => IteP (Rn (fun x S2 => Lc (fun xs S3 => Q (x :: xs) S3) E g t e ρ S2 (kc [e0, e1, e2, e3, e4, e5])) E (kt (e ρ') S1)) (Lc Q E g t e ρ S1 (kc [e0, e1, e2, e3, e4, e5])) (bf b)) E (kt (t ρ') S) := propext ⟨id, id⟩
theorem q_compS7 {g : Tg} {t : Rh → M Bool} {e : Rh → M D} {d e0 e1 e2 e3 e4 e5 e6 : D} {Q : List D → Sv → Prop} : Lc Q E g t e ρ S (kc [d, e0, e1, e2, e3, e4, e5, e6]) = g d ρ fun ρ' => Rn (fun b S1 => IteP (Rn (fun x S2 => Lc (fun xs S3 => Q (x :: xs) S3) E g t e ρ S2 (kc [e0, e1, e2, e3, e4, e5, e6])) E (kt (e ρ') S1)) (Lc Q E g t e ρ S1 (kc [e0, e1, e2, e3, e4, e5, e6])) (bf b)) E (kt (t ρ') S) := propext ⟨id, id⟩
theorem q_compS8 {g : Tg} {t : Rh → M Bool} {e : Rh → M D} {d e0 e1 e2 e3 e4 e5 e6 e7 : D} {Q : List D → Sv → Prop} : Lc Q E g t e ρ S (kc [d, e0, e1, e2, e3, e4, e5, e6, e7]) = g d ρ fun ρ' => Rn (fun b S1 => IteP (Rn (fun x S2 => Lc (fun xs S3 => Q (x :: xs) S3) E g t e ρ S2 (kc [e0, e1, e2, e3, e4, e5, e6, e7])) E (kt (e ρ') S1)) (Lc Q E g t e ρ S1 (kc [e0, e1, e2, e3, e4, e5, e6, e7])) (bf b)) E (kt (t ρ') S) := propext ⟨id, id⟩
theorem q_compS9 {g : Tg} {t : Rh → M Bool} {e : Rh → M D} {d e0 e1 e2 e3 e4 e5 e6 e7 e8 : D} {Q : List D → Sv → Prop} : Lc Q E g t e ρ S (kc [d, e0, e1, e2, e3, e4, e5, e6, e7, e8]) = g d ρ fun ρ' => Rn (fun b S1 => IteP (Rn (fun x S2 => Lc (fun xs S3 => Q (x :: xs) S3) E g t e ρ S2 (kc [e0, e1, e2, e3, e4, e5, e6, e7, e8])) E (kt (e ρ') S1)) (Lc Q E g t e ρ S1 (kc [e0, e1, e2, e3, e4, e5, e6, e7, e8])) (bf b)) E (kt (t ρ') S) := propext ⟨id, id⟩
theorem q_compS10 {g : Tg} {t : Rh → M Bool} {e : Rh → M D} {d e0 e1 e2 e3 e4 e5 e6 e7 e8 e9 : D} {Q : List D → Sv → Prop} : Lc Q E g t e ρ S (kc [d, e0, e1, e2, e3, e4, e5, e6, e7, e8, e9]) = g d ρ fun ρ' => Rn (fun b S1 => IteP (Rn (fun x S2 => Lc (fun xs S3 => Q (x :: xs) S3) E g t e ρ S2 (kc [e0, e1, e2, e3, e4, e5, e6, e7, e8, e9])) E (kt (e ρ') S1)) (Lc Q E g t e ρ S1 (kc [e0, e1, e2, e3, e4, e5, e6, e7, e8, e9])) (bf b)) E (kt (t ρ') S) := propext ⟨id, id⟩
theorem q_compS11 {g : Tg} {t : Rh → M Bool} {e : Rh → M D} {d e0 e1 e2 e3 e4 e5 e6 e7 e8 e9 e10 : D} {Q : List D → Sv → Prop} : Lc Q E g t e ρ S (kc [d, e0, e1, e2, e3, e4, e5, e6, e7, e8, e9, e10]) = g d ρ fun ρ' => Rn (fun b S1 => IteP (Rn (fun x S2 => Lc (fun xs S3 => Q (x :: xs) S3) E g t e ρ S2 (kc [e0, e1, e2, e3, e4, e5, e6, e7, e8, e9, e10])) E (kt (e ρ') S1)) (Lc Q E g t e ρ S1 (kc [e0, e1, e2, e3, e4, e5, e6, e7, e8, e9, e10])) (bf b)) E (kt (t ρ') S) := propext ⟨id, id⟩
theorem q_compS12 {g : Tg} {t : Rh → M Bool} {e : Rh → M D} {d e0 e1 e2 e3 e4 e5 e6 e7 e8 e9 e10 e11 : D} {Q : List D → Sv → Prop} : Lc Q E g t e ρ S (kc [d, e0, e1, e2, e3, e4, e5, e6, e7, e8, e9, e10, e11]) = g d ρ fun ρ' => Rn (fun b S1 => IteP (Rn (fun x S2 => Lc (fun xs S3 => Q (x :: xs) S3) E g t e ρ S2 (kc [e0, e1, e2, e3, e4, e5, e6, e7, e8, e9, e10, e11])) E (kt (e ρ') S1)) (Lc Q E g t e ρ S1 (kc [e0, e1, e2, e3, e4, e5, e6, e7, e8, e9, e10, e11])) (bf b)) E (kt (t ρ') S) := propext ⟨id, id⟩
def orN (x : D) : M D := bind (truD x) fun c => iteM c (ret x) (ret (.lst []))
theorem q_orN {a : Rh → M D} : Rn Q E (kt (eOrN a ρ) S) = Rn (fun x S1 => Rn Q E (kt (orN x) S1)) E (kt (a ρ) S) := (show eOrN a ρ S Q E = a ρ S (fun x S1 => orN x S1 Q E) E from by
  unfold eOrN eOr orN
  refine congrArg (fun q => a ρ S q E) ?_
  funext x S1
  refine congrArg (fun q => truD x S1 q E) ?_
  funext c S2
  cases c
  · exact propext ⟨fun z => ⟨fun h => (by cases h), fun _ => (z.2 rfl).2⟩, fun z => ⟨fun h => (by cases h), fun _ => ⟨Nat.zero_le _, z.2 rfl⟩⟩⟩
  · exact propext ⟨fun z => ⟨fun _ => z.1 rfl, fun h => (by cases h)⟩, fun z => ⟨fun _ => z.1 rfl, fun h => (by cases h)⟩⟩)
theorem q_orNn  : Rn Q E (kt (orN .non) S) = Q (.lst []) S := (show orN .non S Q E = Q (.lst []) S from propext ⟨fun z => z.2 rfl, fun z => ⟨fun h => (by cases h), fun _ => z⟩⟩)
theorem q_orNl {ds : List D} : Rn Q E (kt (orN (.lst ds)) S) = Q (.lst ds) S := (show orN (.lst ds) S Q E = Q (.lst ds) S from by
  cases ds
  · exact propext ⟨fun z => z.2 rfl, fun z => ⟨fun h => (by cases h), fun _ => z⟩⟩
  · exact propext ⟨fun z => z.1 rfl, fun z => ⟨fun _ => z, fun h => (by cases h)⟩⟩)
theorem q_for0 {g : Tg} {b : Sm} : Lp (EndsD.mk nx rt bk ct ex) g b ρ S (kl []) = nx ρ S := propext ⟨id, id⟩
theorem q_forS0 {g : Tg} {b : Sm} {d : D} : Lp (EndsD.mk nx rt bk ct ex) g b ρ S (kl [d]) = g d ρ fun ρ' => Rs (EndsD.mk (fun ρ2 S2 => Lp (EndsD.mk nx rt bk ct ex) g b ρ2 S2 (kl [])) rt nx (fun ρ2 S2 => Lp (EndsD.mk nx rt bk ct ex) g b ρ2 S2 (kl [])) ex) (ks b ρ' S) := propext ⟨id, id⟩
theorem q_forS1 {g : Tg} {b : Sm} {d e0 : D} : Lp (EndsD.mk nx rt bk ct ex) g b ρ S (kl [d, e0]) = g d ρ fun ρ' => Rs (EndsD.mk (fun ρ2 S2 => Lp (EndsD.mk nx rt bk ct ex) g b ρ2 S2 (kl [e0])) rt nx (fun ρ2 S2 => Lp (EndsD.mk nx rt bk ct ex) g b ρ2 S2 (kl [e0])) ex) (ks b ρ' S) := propext ⟨id, id⟩
theorem q_forS2 {g : Tg} {b : Sm} {d e0 e1 : D} : Lp (EndsD.mk nx rt bk ct ex) g b ρ S (kl [d, e0, e1]) = g d ρ fun ρ' => Rs (EndsD.mk (fun ρ2 S2 => Lp (EndsD.mk nx rt bk ct ex) g b ρ2 S2 (kl [e0, e1])) rt nx (fun ρ2 S2 => Lp (EndsD.mk nx rt bk ct ex) g b ρ2 S2 (kl [e0, e1])) ex) (ks b ρ' S) := propext ⟨id, id⟩
theorem q_forS3 {g : Tg} {b : Sm} {d e0 e1 e2 : D} : Lp (EndsD.mk nx rt bk ct ex) g b ρ S (kl [d, e0, e1, e2]) = g d ρ fun ρ' => Rs (EndsD.mk (fun ρ2 S2 => Lp (EndsD.mk nx rt bk ct ex) g b ρ2 S2 (kl [e0, e1, e2])) rt nx (fun ρ2 S2 => Lp (EndsD.mk nx rt bk ct ex) g b ρ2 S2 (kl [e0, e1, e2])) ex) (ks b ρ' S) := propext ⟨id, id⟩
theorem q_forS4 {g : Tg} {b : Sm} {d e0 e1 e2 e3 : D} : Lp (EndsD.mk nx rt bk ct ex) g b ρ S (kl [d, e0, e1, e2, e3]) = g d ρ fun ρ' => Rs (EndsD.mk (fun ρ2 S2 => Lp (EndsD.mk nx rt bk ct ex) g b ρ2 S2 (kl [e0, e1, e2, e3])) rt nx (fun ρ2 S2 => Lp (EndsD.mk nx rt bk ct ex) g b ρ2 S2 (kl [e0, e1, e2, e3])) ex) (ks b ρ' S) := propext ⟨id, id⟩
theorem q_forS5 {g : Tg} {b : Sm} {d e0 e1 e2 e3 e4 : D} : Lp (EndsD.mk nx rt bk ct ex) g b ρ S (kl [d, e0, e1, e2, e3, e4]) = g d ρ fun ρ' => Rs (EndsD.mk (fun ρ2 S2 => Lp (EndsD.mk nx rt bk ct ex) g b ρ2 S2 (kl [e0, e1, e2, e3, e4])) rt nx (fun ρ2 S2 => Lp (EndsD.mk nx rt bk ct ex) g b ρ2 S2 (kl [e0, e1, e2, e3, e4])) ex) (ks b ρ' S) := propext ⟨id, id⟩
theorem q_forS6 {g : Tg} {b : Sm} {d e0 e1 e2 e3 e4 e5 : D} : Lp (EndsD.mk nx rt bk ct ex) g b ρ S (kl [d, e0, e1, e2, e3, e4, e5]) = g d ρ fun ρ' => Rs (EndsD.mk (fun ρ2 S2 => Lp (EndsD.mk nx rt bk ct ex) g b ρ2 S2 (kl [e0, e1, e2, e3, e4, e5])) rt nx (fun ρ2 S2 => Lp (EndsD.mk nx rt bk ct ex) g b ρ2 S2 (kl [e0, e1, e2, e3, e4, e5])) ex) (ks b ρ' S) := propext ⟨id, id⟩
theorem q_forS7 {g : Tg} {b : Sm} {d e0 e1 e2 e3 e4 e5 e6 : D} : Lp (EndsD.mk nx rt bk ct ex) g b ρ S (kl [d, e0, e1, e2, e3, e4, e5, e6]) = g d ρ fun ρ' => Rs (EndsD.mk (fun ρ2 S2 => Lp (EndsD.mk nx rt bk ct ex) g b ρ2 S2 (kl [e0, e1, e2, e3, e4, e5, e6])) rt nx (fun ρ2 S2 => Lp (EndsD.mk nx rt bk ct ex) g b ρ2 S2 (kl [e0, e1, e2, e3, e4, e5, e6])) ex) (ks b ρ' S) := propext ⟨id, id⟩
theorem q_forS8 {g : Tg} {b : Sm} {d e0 e1 e2 e3 e4 e5 e6 e7 : D} : Lp (EndsD.mk nx rt bk ct ex) g b ρ S (kl [d, e0, e1, e2, e3, e4, e5, e6, e7]) = g d ρ fun ρ' => Rs (EndsD.mk (fun ρ2 S2 => Lp (EndsD.mk nx rt bk ct ex) g b ρ2 S2 (kl [e0, e1, e2, e3, e4, e5, e6, e7])) rt nx (fun ρ2 S2 => Lp (EndsD.mk nx rt bk ct ex) g b ρ2 S2 (kl [e0, e1, e2, e3, e4, e5, e6, e7])) ex) (ks b ρ' S) := propext ⟨id, id⟩
theorem q_forS9 {g : Tg} {b : Sm} {d e0 e1 e2 e3 e4 e5 e6 e7 e8 : D} : Lp (EndsD.mk nx rt bk ct ex) g b ρ S (kl [d, e0, e1, e2, e3, e4, e5, e6, e7, e8]) = g d ρ fun ρ' => Rs (EndsD.mk (fun ρ2 S2 => Lp (EndsD.mk nx rt bk ct ex) g b ρ2 S2 (kl [e0, e1, e2, e3, e4, e5, e6, e7, e8])) rt nx (fun ρ2 S2 => Lp (EndsD.mk nx rt bk ct ex) g b ρ2 S2 (kl [e0, e1, e2, e3, e4, e5, e6, e7, e8])) ex) (ks b ρ' S) := propext ⟨id, id⟩
theorem q_forS10 {g : Tg} {b : Sm} {d e0 e1 e2 e3 e4 e5 e6 e7 e8 e9 : D} : Lp (EndsD.mk nx rt bk ct ex) g b ρ S (kl [d, e0, e1, e2, e3, e4, e5, e6, e7, e8, e9]) = g d ρ fun ρ' => Rs (EndsD.mk (fun ρ2 S2 => Lp (EndsD.mk nx rt bk ct ex) g b ρ2 S2 (kl [e0, e1, e2, e3, e4, e5, e6, e7, e8, e9])) rt nx (fun ρ2 S2 => Lp (EndsD.mk nx rt bk ct ex) g b ρ2 S2 (kl [e0, e1, e2, e3, e4, e5, e6, e7, e8, e9])) ex) (ks b ρ' S) := propext ⟨id, id⟩
theorem q_forS11 {g : Tg} {b : Sm} {d e0 e1 e2 e3 e4 e5 e6 e7 e8 e9 e10 : D} : Lp (EndsD.mk nx rt bk ct ex) g b ρ S (kl [d, e0, e1, e2, e3, e4, e5, e6, e7, e8, e9, e10]) = g d ρ fun ρ' => Rs (EndsD.mk (fun ρ2 S2 => Lp (EndsD.mk nx rt bk ct ex) g b ρ2 S2 (kl [e0, e1, e2, e3, e4, e5, e6, e7, e8, e9, e10])) rt nx (fun ρ2 S2 => Lp (EndsD.mk nx rt bk ct ex) g b ρ2 S2 (kl [e0, e1, e2, e3, e4, e5, e6, e7, e8, e9, e10])) ex) (ks b ρ' S) := propext ⟨id, id⟩
theorem q_forS12 {g : Tg} {b : Sm} {d e0 e1 e2 e3 e4 e5 e6 e7 e8 e9 e10 e11 : D} : Lp (EndsD.mk nx rt bk ct ex) g b ρ S (kl [d, e0, e1, e2, e3, e4, e5, e6, e7, e8, e9, e10, e11]) = g d ρ fun ρ' => Rs (EndsD.mk (fun ρ2 S2 => Lp (EndsD.mk nx rt bk ct ex) g b ρ2 S2 (kl [e0, e1, e2, e3, e4, e5, e6, e7, e8, e9, e10, e11])) rt nx (fun ρ2 S2 => Lp (EndsD.mk nx rt bk ct ex) g b ρ2 S2 (kl [e0, e1, e2, e3, e4, e5, e6, e7, e8, e9, e10, e11])) ex) (ks b ρ' S) := propext ⟨id, id⟩
end
theorem szL {n : Nat} (h : n ≤ 16000000) : n ≤ sizeLine := Nat.le_trans h (by decide)
theorem szL1 {n : Nat} (h : n ≤ 16000000) : n < sizeLine := Nat.lt_of_le_of_lt h (by decide)
def Ss17 := And.intro (And.intro (And.intro (And.intro (And.intro (And.intro @q_seq @q_nil) (And.intro @q_brk @q_cont)) (And.intro (And.intro @q_expr @q_sret) (And.intro @q_sretN @q_if))) (And.intro (And.intro (And.intro @q_set @q_gT) (And.intro @q_gs0 @q_gs1)) (And.intro (And.intro @q_for @q_raise) (And.intro @q_src @q_srcK)))) (And.intro (And.intro (And.intro (And.intro @q_bind @q_ret) (And.intro @q_rse @q_need)) (And.intro (And.intro @q_noex @q_iteM) (And.intro @q_c @q_bin))) (And.intro (And.intro (And.intro @q_aN @q_aC) (And.intro @q_asB @q_and)) (And.intro (And.intro @q_or @q_not) (And.intro @q_eif @q_bAnd))))) (And.intro (And.intro (And.intro (And.intro (And.intro @q_bOr @q_bNot) (And.intro @q_bYes @q_chain)) (And.intro (And.intro @q_sl @q_oN) (And.intro @q_asI @q_lstM))) (And.intro (And.intro (And.intro @q_tupM @q_srcM) (And.intro @q_ck @q_js0)) (And.intro (And.intro @q_js @q_jsK) (And.intro @q_orF @q_asStr)))) (And.intro (And.intro (And.intro (And.intro @q_notB @q_inBf) (And.intro @q_inBt @q_sc1)) (And.intro (And.intro @q_mt @q_mtS) (And.intro @q_mtI @q_mth))) (And.intro (And.intro (And.intro @q_mthKw @q_iteT) (And.intro @q_iteF @q_iteN)) (And.intro (And.intro @q_iteA @q_iteO) (And.intro @q_ite1 @q_ite0)))))
def Ss0 := And.intro (And.intro (And.intro (And.intro (And.intro (And.intro @q_ttr @q_tnon) (And.intro @q_tint @q_tstr)) (And.intro (And.intro @q_tlst @q_ttup) (And.intro @q_eqI @q_neI))) (And.intro (And.intro (And.intro @q_eqS @q_neS) (And.intro @q_eqB @q_neB)) (And.intro (And.intro @q_eqY @q_neY) (And.intro @q_eqNN @q_eqNI)))) (And.intro (And.intro (And.intro (And.intro @q_eqIN @q_eqNS) (And.intro @q_eqSN @q_eqIS)) (And.intro (And.intro @q_eqSI @q_sub) (And.intro @q_add @q_iadd))) (And.intro (And.intro (And.intro @q_addS @q_addY) (And.intro @q_addL @q_addC)) (And.intro (And.intro @q_addT @q_mul) (And.intro @q_mulL @q_fdiv))))) (And.intro (And.intro (And.intro (And.intro (And.intro @q_mod @q_pow) (And.intro @q_shl @q_shr)) (And.intro (And.intro @q_band @q_bor) (And.intro @q_bxor @q_neg))) (And.intro (And.intro (And.intro @q_lt @q_le) (And.intro @q_gt @q_ge)) (And.intro (And.intro @q_isN @q_isI) (And.intro @q_isS @q_isB)))) (And.intro (And.intro (And.intro (And.intro @q_isL @q_isTp) (And.intro @q_isO @q_itL)) (And.intro (And.intro @q_itT @q_itS) (And.intro @q_rng1 @q_rng2))) (And.intro (And.intro (And.intro @q_rng3 @q_tab) (And.intro @q_act0 @q_act1)) (And.intro (And.intro @q_act2 @q_actV0) (And.intro @q_actV1 @q_actV2)))))
def Ss12 := And.intro (And.intro (And.intro (And.intro (And.intro (And.intro @q_lcount6 @q_lindex) (And.intro @q_dct1 @q_bits)) (And.intro (And.intro @q_catM @q_aCat) (And.intro @q_listY @q_enum))) (And.intro (And.intro (And.intro @q_zip @q_ixSrc) (And.intro @q_slL @q_slC)) (And.intro (And.intro @q_slT @q_slS) (And.intro @q_revS @q_lenL)))) (And.intro (And.intro (And.intro (And.intro @q_lenC @q_lenT) (And.intro @q_lenS @q_lenY)) (And.intro (And.intro @q_intI @q_intB) (And.intro @q_boolI @q_boolB))) (And.intro (And.intro (And.intro @q_max2 @q_min2) (And.intro @q_maxL @q_minL)) (And.intro (And.intro @q_sum @q_listL) (And.intro @q_listT @q_tupL))))) (And.intro (And.intro (And.intro (And.intro (And.intro @q_tupT @q_inSf) (And.intro @q_inSt @q_startswith)) (And.intro (And.intro @q_endswith @q_find) (And.intro @q_rfind @q_count))) (And.intro (And.intro (And.intro @q_rstrip @q_lower) (And.intro @q_upper @q_split)) (And.intro (And.intro @q_part @q_index) (And.intro @q_strI @q_fmtI)))) (And.intro (And.intro (And.intro (And.intro @q_fmtS @q_hex) (And.intro @q_hexN @q_toB)) (And.intro (And.intro @q_fromB @q_ownOI) (And.intro @q_ownOS @q_ownON))) (And.intro (And.intro (And.intro @q_ownOB @q_ownOY) (And.intro @q_ownOL @q_ownOT)) (And.intro (And.intro @q_ownNI @q_ownNS) (And.intro @q_ownNN @q_ownNB)))))
def Ss3 := And.intro (And.intro (And.intro (And.intro (And.intro @q_ownNY @q_ownNL) (And.intro @q_ownNT (And.intro @q_ownIL @q_ownIT))) (And.intro (And.intro @q_ownIS @q_ownXL) (And.intro @q_ownXC (And.intro @q_ixC @q_ownXT)))) (And.intro (And.intro (And.intro @q_ownXS @q_comp0) (And.intro @q_compS0 (And.intro @q_compS1 @q_compS2))) (And.intro (And.intro @q_compS3 (And.intro @q_compS4 @q_compS5)) (And.intro @q_compS6 (And.intro @q_compS7 @q_compS8))))) (And.intro (And.intro (And.intro (And.intro @q_compS9 @q_compS10) (And.intro @q_compS11 (And.intro @q_compS12 @q_orN))) (And.intro (And.intro @q_orNn @q_orNl) (And.intro @q_for0 (And.intro @q_forS0 @q_forS1)))) (And.intro (And.intro (And.intro @q_forS2 @q_forS3) (And.intro @q_forS4 (And.intro @q_forS5 @q_forS6))) (And.intro (And.intro @q_forS7 (And.intro @q_forS8 @q_forS9)) (And.intro @q_forS10 (And.intro @q_forS11 @q_forS12)))))
def Ss18 := And.intro (And.intro (And.intro (And.intro (And.intro @q_need @q_orF) (And.intro @q_iteT @q_iteF)) (And.intro (And.intro @q_iteN @q_iteA) (And.intro @q_iteO (And.intro @q_ite1 @q_ite0)))) (And.intro (And.intro (And.intro @q_comp0 @q_compS0) (And.intro @q_compS1 @q_compS2)) (And.intro (And.intro @q_compS3 @q_compS4) (And.intro @q_compS5 (And.intro @q_compS6 @q_compS7))))) (And.intro (And.intro (And.intro (And.intro @q_compS8 @q_compS9) (And.intro @q_compS10 @q_compS11)) (And.intro (And.intro @q_compS12 @q_for0) (And.intro @q_forS0 (And.intro @q_forS1 @q_forS2)))) (And.intro (And.intro (And.intro @q_forS3 @q_forS4) (And.intro @q_forS5 (And.intro @q_forS6 @q_forS7))) (And.intro (And.intro @q_forS8 @q_forS9) (And.intro @q_forS10 (And.intro @q_forS11 @q_forS12)))))
def Ss2 := And.intro @z_cn0 (And.intro @z_cnT @z_cnF)
end Dn

set_option Elab.async false
set_option linter.all false
set_option maxRecDepth 100000
set_option maxHeartbeats 4000000
set_option pp.deepTerms false
set_option pp.deepTerms.threshold 5
set_option pp.maxSteps 1500

namespace Dn
open PySem PySem.W PySem.Spec PyProof.Rows L2 TL Bits An
def maskN (p W : Int) : Int := (2 ^ p.toNat - 1) * 2 ^ (W - p).toNat
def lowE (n p W : Int) : Int := n / 2 ^ (W - p).toNat * 2 ^ (W - p).toNat
def Wv (v : Int) : Int := if v = 4 then 32 else 128
def Ad (v n : Int) : D := .ins (if v = 4 then "Address4" else "Address6") ["number"] [.int n]
def Nt (v n p : Int) : D := .ins (if v = 4 then "Network4" else "Network6") ["first", "last", "prefix", "size", "mask", "hostmask", "rank"] [Ad v n, Ad v (n + 2 ^ (Wv v - p).toNat - 1), .int p, .int (2 ^ (Wv v - p).toNat), Ad v (maskN p (Wv v)), Ad v (2 ^ (Wv v - p).toNat - 1), .tup [.int n, .int p]]
def If (v n p : Int) : D := .ins (if v = 4 then "Interface4" else "Interface6") ["address", "network", "rank"] [Ad v n, Nt v (lowE n p (Wv v)) p, .tup [.int (lowE n p (Wv v)), .int p, .int n]]
def prD (p : Int × Int) : D := .tup [.int p.1, .int p.2]
def sizeR (rs : List (Int × Int)) : Int := (rs.map fun p => p.2 - p.1 + 1).sum
def Ns (v : Int) (rs : List (Int × Int)) : D := .ins "Netset" ["version", "ranges", "size"] [.int v, .tup (rs.map prD), .int (sizeR rs)]
def dis {α : Type} (v : Int) (f g : α) : α := if v = 4 then f else g
theorem wv4 : Wv 4 = 32 := rfl
theorem z_dis4 {α : Type} {f g : α} : dis 4 f g = f := rfl
theorem z_dis6 {α : Type} {f g : α} : dis 6 f g = g := rfl
theorem z_iF : (if false = true then (1 : Int) else 0) = 0 := rfl
theorem z_iT : (if true = true then (1 : Int) else 0) = 1 := rfl
theorem z_iTr [Decidable True] : (if True then (1 : Int) else 0) = 1 := if_pos trivial
theorem z_iFa [Decidable False] : (if False then (1 : Int) else 0) = 0 := if_neg id
theorem len_slash : (Str.ofString "/").length = 1 := by decide +kernel
theorem len_emp : Str.empty.length = 0 := rfl
theorem z_emp {z : Str} : Str.empty ++ z = z := ext_tl (by rw [tl_append]; rfl)
theorem wv6 : Wv 6 = 128 := rfl
theorem wv_ne {v : Int} (h : ¬ v = 4) : Wv v = 128 := if_neg h
theorem Ad_ne {v n : Int} (h : ¬ v = 4) : Ad v n = Ad 6 n := by unfold Ad; rw [if_neg h]; rfl
theorem Nt_ne {v n p : Int} (h : ¬ v = 4) : Nt v n p = Nt 6 n p := by unfold Nt; rw [if_neg h, Ad_ne h, Ad_ne h, Ad_ne h, Ad_ne h, wv_ne h]; rfl
theorem If_ne {v n p : Int} (h : ¬ v = 4) : If v n p = If 6 n p := by unfold If; rw [if_neg h, Ad_ne h, Nt_ne h, wv_ne h]; rfl
theorem dis_ne {α : Type} {v : Int} {f g : α} (h : ¬ v = 4) : dis v f g = g := if_neg h
abbrev badText (z : Str) : Xn := ⟨"BadText", ["why"], [.str z]⟩
abbrev badNumber (d : D) : Xn := ⟨"BadNumber", ["value"], [d]⟩
abbrev badBytes (d : D) : Xn := ⟨"BadBytes", ["length"], [d]⟩
section
variable {S : Sv} {ρ : Rh} {Q : D → Sv → Prop} {E : Xn → Sv → Prop} {v n p : Int} {neg : Bool}
theorem g_fld {tbl : List (Str × Atr)} {f c : Str} {ns : List Str} {ds : List D} {d : D} (h1 : tbl.lookup c = some .fld) (h2 : (ns.zip ds).lookup f = some d) : atrD tbl f (.ins c ns ds) S Q E = Q d S := by
  unfold atrD fldOf
  simp only [h1, h2]
  exact propext ⟨id, id⟩
theorem g_op {tbl : Fns} {cs : List Str} {base : D → D → M D} {a b : D} {c : Str} {F : List D → M D} (h1 : clsN a = some c) (h2 : tbl.lookup c = some F) (h3 : cs.contains c = true) (h : (tyOfD cs b).isSome = true) : ownOp tbl cs base a b S Q E = F [a, b] S Q E := by
  obtain ⟨tb, e⟩ := Option.isSome_iff_exists.mp h
  unfold ownOp
  simp only [h1, h2, h3, e]
theorem g_ne {tbl : Fns} {cs : List Str} {base : D → D → M D} {a b : D} {c : Str} {F : List D → M D} (h1 : clsN a = some c) (h2 : tbl.lookup c = some F) (h3 : cs.contains c = true) (h : (tyOfD cs b).isSome = true) : ownNe tbl cs base a b S Q E = F [a, b] S (fun y S1 => notB y S1 Q E) E := by
  obtain ⟨tb, e⟩ := Option.isSome_iff_exists.mp h
  unfold ownNe
  simp only [h1, h2, h3, e]
  exact propext ⟨id, id⟩
theorem g_str {tbl : Fns} {c : Str} {ns : List Str} {ds : List D} {F : List D → M D} (h2 : tbl.lookup c = some F) : strD tbl [.ins c ns ds] S Q E = F [.ins c ns ds] S (fun y S1 => asStr y S1 Q (fun _ _ => False)) (fun _ _ => False) := by
  unfold strD
  simp only [h2]
  exact propext ⟨id, id⟩
theorem g_fmt {tbl : Fns} {c : Str} {ns : List Str} {ds : List D} {F : List D → M D} (h2 : tbl.lookup c = some F) : fmtD tbl (.ins c ns ds) S Q E = F [.ins c ns ds] S (fun y S1 => asStr y S1 Q (fun _ _ => False)) (fun _ _ => False) := by
  unfold fmtD
  simp only [h2]
  exact propext ⟨id, id⟩
theorem g_isi {cs : List Str} {x c : D} {b : Bool} (h : ((tyOfD cs x).bind fun t => (isiV cs t c).map D.bl) = some (D.bl b)) : isiD cs [x, c] S Q E = Q (.bl b) S := by
  show orFail ((tyOfD cs x).bind fun t => (isiV cs t c).map D.bl) S Q E = _
  rw [h]
  exact propext ⟨id, id⟩
theorem q_binOI {tbl : Fns} {cs : List Str} {base : D → D → M D} {i : Int} {b : D} : Rn Q E (kt (ownBin tbl cs base (.int i) b) S) = Rn Q E (kt (base (.int i) b) S) := (show ownBin tbl cs base (.int i) b S Q E = base (.int i) b S Q E from rfl)
theorem q_binOS {tbl : Fns} {cs : List Str} {base : D → D → M D} {i : Str} {b : D} : Rn Q E (kt (ownBin tbl cs base (.str i) b) S) = Rn Q E (kt (base (.str i) b) S) := (show ownBin tbl cs base (.str i) b S Q E = base (.str i) b S Q E from rfl)
theorem q_binOL {tbl : Fns} {cs : List Str} {base : D → D → M D} {i : List D} {b : D} : Rn Q E (kt (ownBin tbl cs base (.lst i) b) S) = Rn Q E (kt (base (.lst i) b) S) := (show ownBin tbl cs base (.lst i) b S Q E = base (.lst i) b S Q E from rfl)
theorem q_binOT {tbl : Fns} {cs : List Str} {base : D → D → M D} {i : List D} {b : D} : Rn Q E (kt (ownBin tbl cs base (.tup i) b) S) = Rn Q E (kt (base (.tup i) b) S) := (show ownBin tbl cs base (.tup i) b S Q E = base (.tup i) b S Q E from rfl)
theorem q_binOY {tbl : Fns} {cs : List Str} {base : D → D → M D} {i : Array UInt8} {b : D} : Rn Q E (kt (ownBin tbl cs base (.byt i) b) S) = Rn Q E (kt (base (.byt i) b) S) := (show ownBin tbl cs base (.byt i) b S Q E = base (.byt i) b S Q E from rfl)
theorem q_fldH {f : Str} {ns : List Str} {d : D} {ds : List D} : Rn Q E (kt (fldOf f (f :: ns) (d :: ds)) S) = Q d S := (show fldOf f (f :: ns) (d :: ds) S Q E = Q d S from by unfold fldOf; simp only [List.zip_cons_cons, List.lookup_cons_self]; exact propext ⟨id, id⟩)
theorem q_mulXS {z : Str} {k : Int} (h : (-(2 ^ 62) ≤ k ∧ k < 2 ^ 62) ∧ z.length * k.toNat ≤ sizeLine) : Rn Q E (kt (mulX (.str z) (.int k)) S) = Q (.str (repS k.toNat z)) S := (show mulX (.str z) (.int k) S Q E = Q (.str (repS k.toNat z)) S from propext ⟨fun z => z.2, fun z => ⟨h, z⟩⟩)
theorem q_mulXI {i : Int} {b : D} : Rn Q E (kt (mulX (.int i) b) S) = Rn Q E (kt (mulD (.int i) b) S) := (show mulX (.int i) b S Q E = mulD (.int i) b S Q E from rfl)
theorem q_mulXL {i : List D} {b : D} : Rn Q E (kt (mulX (.lst i) b) S) = Rn Q E (kt (mulD (.lst i) b) S) := (show mulX (.lst i) b S Q E = mulD (.lst i) b S Q E from rfl)
theorem q_isBf {b : Bool} : Rn Q E (kt (isBD false (.bl b) (.bl true)) S) = Q (.bl b) S := (show isBD false (.bl b) (.bl true) S Q E = Q (.bl b) S from by cases b <;> exact propext ⟨id, id⟩)
theorem q_isBt {b : Bool} : Rn Q E (kt (isBD true (.bl b) (.bl true)) S) = Q (.bl (!b)) S := (show isBD true (.bl b) (.bl true) S Q E = Q (.bl (!b)) S from by cases b <;> exact propext ⟨id, id⟩)
theorem q_isA  : Rn Q E (kt (isD neg (Ad v n) .non) S) = Q (.bl neg) S := (show isD neg (Ad v n) .non S Q E = Q (.bl neg) S from by unfold Ad isD; cases neg <;> exact propext ⟨id, id⟩)
theorem q_isNt  : Rn Q E (kt (isD neg (Nt v n p) .non) S) = Q (.bl neg) S := (show isD neg (Nt v n p) .non S Q E = Q (.bl neg) S from by unfold Nt isD; cases neg <;> exact propext ⟨id, id⟩)
theorem q_isIf  : Rn Q E (kt (isD neg (If v n p) .non) S) = Q (.bl neg) S := (show isD neg (If v n p) .non S Q E = Q (.bl neg) S from by unfold If isD; cases neg <;> exact propext ⟨id, id⟩)
end
theorem cshl_div {a j : Int} {k : Nat} (h0 : 0 ≤ j) (h1 : j ≤ 100000) (a0 : 0 ≤ a) (a1 : a < 2 ^ 200) : CShl (a / 2 ^ k) j := by
  have := Int.ediv_nonneg a0 (Int.le_of_lt (Int.pow_pos (n := 2) (m := k) (by decide)))
  have := Int.ediv_le_self (2 ^ k) a0
  exact cshl h0 h1 (by omega) (by omega)

def Ss10 := And.intro (And.intro (And.intro @q_binOI (And.intro @q_binOS @q_binOL)) (And.intro (And.intro @q_binOT @q_binOY) (And.intro @q_fldH @q_mulXS))) (And.intro (And.intro @q_mulXI (And.intro @q_mulXL @q_isBf)) (And.intro (And.intro @q_isBt @q_isA) (And.intro @q_isNt @q_isIf)))
def Ss9 := And.intro (And.intro @z_dis4 (And.intro @z_dis6 @z_iF)) (And.intro (And.intro @z_iT @z_iTr) (And.intro @z_iFa @z_emp))
end Dn

set_option Elab.async false
set_option linter.all false
set_option maxRecDepth 100000
set_option maxHeartbeats 4000000
set_option pp.deepTerms false
set_option pp.deepTerms.threshold 5
set_option pp.maxSteps 1500

namespace Dn
open PySem PySem.W PySem.Spec PyProof.Rows L2 TL Bits An
structure PyN (n : Nat) (d : D) : Prop where
  py : isPy d = true
  lay : (Dn.py d).canLay0 = true
  dep : (Dn.py d).depth ≤ n
structure PyL (n : Nat) (ds : List D) : Prop where
  py : isPyL ds = true
  lay : PyData.canLayAll0 (pyL ds) = true
  dep : PyData.depthAll (pyL ds) ≤ n
def StrK (z : Str) : Prop := ∀ c ∈ tl z, c < 1114112
theorem strK_iff {z : Str} : StrK z ↔ PyData.strOk z = true := by
  unfold StrK PyData.strOk
  rw [Array.all_eq_true_iff_forall_mem]
  constructor
  · intro h c m
    exact decide_eq_true (h c (Array.mem_toList_iff.mpr m))
  · intro h c m
    exact of_decide_eq_true (h c (Array.mem_toList_iff.mp m))
theorem py_non {n : Nat} : PyN n .non := ⟨rfl, rfl, by unfold Dn.py PyData.depth; omega⟩
theorem py_bl {n : Nat} {b : Bool} : PyN n (.bl b) := ⟨rfl, rfl, by unfold Dn.py PyData.depth; omega⟩
theorem py_int {n : Nat} {i : Int} : PyN n (.int i) := ⟨rfl, rfl, by unfold Dn.py PyData.depth; omega⟩
theorem py_str {n : Nat} {z : Str} (h : StrK z) : PyN n (.str z) := ⟨rfl, by unfold Dn.py PyData.canLay0; exact strK_iff.mp h, by unfold Dn.py PyData.depth; omega⟩
theorem py_lst {n : Nat} {ds : List D} (h : PyL n ds) : PyN (n + 1) (.lst ds) := ⟨h.py, by unfold Dn.py PyData.canLay0; exact h.lay, by have := h.dep; unfold Dn.py PyData.depth; omega⟩
theorem py_tup {n : Nat} {ds : List D} (h : PyL n ds) : PyN (n + 1) (.tup ds) := ⟨h.py, by unfold Dn.py PyData.canLay0; exact h.lay, by have := h.dep; unfold Dn.py PyData.depth; omega⟩
theorem sk_lit {z : Str} (h : PyData.strOk z = true) : StrK z := strK_iff.mpr h
theorem sk_app {a b : Str} (h : StrK a) (h2 : StrK b) : StrK (a ++ b) := fun c m => by
  have e : tl (a ++ b) = tl a ++ tl b := by
    show (a.cps ++ b.cps).toList = _
    exact Array.toList_append
  rw [e] at m
  exact (List.mem_append.mp m).elim (h c) (h2 c)
theorem pyl_nil {n : Nat} : PyL n [] := ⟨rfl, rfl, by unfold pyL PyData.depthAll; omega⟩
theorem pyl_cons {n : Nat} {d : D} {ds : List D} (h : PyN n d) (t : PyL n ds) : PyL n (d :: ds) := ⟨by unfold isPyL; rw [h.py, t.py]; rfl, by unfold pyL PyData.canLayAll0; rw [h.lay, t.lay]; rfl, by have := h.dep; have := t.dep; unfold pyL PyData.depthAll; omega⟩
theorem pyl_map {α : Type} {n : Nat} {f : α → D} {xs : List α} (h : ∀ x ∈ xs, PyN n (f x)) : PyL n (xs.map f) := by
  induction xs with
  | nil => exact pyl_nil
  | cons x xs ih => exact pyl_cons (h x (List.mem_cons_self ..)) (ih fun y m => h y (List.mem_cons_of_mem _ m))
theorem pyl_app {n : Nat} : ∀ {a b : List D}, PyL n a → PyL n b → PyL n (a ++ b)
  | [], _, _, h => h
  | d :: a, b, h, t => by
    have h1 : PyN n d ∧ PyL n a := by
      refine ⟨⟨?_, ?_, ?_⟩, ⟨?_, ?_, ?_⟩⟩
      · have := h.py; unfold isPyL at this; exact (Bool.and_eq_true_iff.mp this).1
      · have := h.lay; unfold pyL PyData.canLayAll0 at this; exact (Bool.and_eq_true_iff.mp this).1
      · have := h.dep; unfold pyL PyData.depthAll at this; omega
      · have := h.py; unfold isPyL at this; exact (Bool.and_eq_true_iff.mp this).2
      · have := h.lay; unfold pyL PyData.canLayAll0 at this; exact (Bool.and_eq_true_iff.mp this).2
      · have := h.dep; unfold pyL PyData.depthAll at this; omega
    exact pyl_cons h1.1 (pyl_app h1.2 t)
theorem PyN.ok {n : Nat} {d : D} (h : PyN n d) (hn : n ≤ 64) : pyOk d := ⟨h.py, by unfold SeqAt.shaped; rw [h.lay, Bool.true_and]; exact decide_eq_true (Nat.le_trans h.dep hn)⟩
def deq (a b : D) : Bool := PyData.eqv (py a) (py b)
def deqL (a b : List D) : Bool := PyData.eqvAll (pyL a) (pyL b)
section
variable {S : Sv} {Q : D → Sv → Prop} {E : Xn → Sv → Prop} {i j : Int} {a b : Str} {x y : Bool} {c d : D} {xs ys : List D}
theorem q_eqT (h : PyL 40 xs) (h2 : PyL 40 ys) : Rn Q E (kt (eqB false (.tup xs) (.tup ys)) S) = Q (.bl (deqL xs ys)) S := (show eqB false (.tup xs) (.tup ys) S Q E = Q (.bl (deqL xs ys)) S from by
  have e : eqB false (.tup xs) (.tup ys) = need (pyOk (.tup xs) ∧ pyOk (.tup ys)) (ret (.bl (xor false (deqL xs ys)))) := rfl
  rw [e, Bool.false_xor]
  exact propext ⟨fun z => z.2, fun z => ⟨⟨(py_tup h).ok (by decide), (py_tup h2).ok (by decide)⟩, z⟩⟩)
theorem q_neT (h : PyL 40 xs) (h2 : PyL 40 ys) : Rn Q E (kt (eqB true (.tup xs) (.tup ys)) S) = Q (.bl (!deqL xs ys)) S := (show eqB true (.tup xs) (.tup ys) S Q E = Q (.bl (!deqL xs ys)) S from by
  have e : eqB true (.tup xs) (.tup ys) = need (pyOk (.tup xs) ∧ pyOk (.tup ys)) (ret (.bl (xor true (deqL xs ys)))) := rfl
  rw [e, Bool.true_xor]
  exact propext ⟨fun z => z.2, fun z => ⟨⟨(py_tup h).ok (by decide), (py_tup h2).ok (by decide)⟩, z⟩⟩)
theorem q_eqL (h : PyL 40 xs) (h2 : PyL 40 ys) : Rn Q E (kt (eqB false (.lst xs) (.lst ys)) S) = Q (.bl (deqL xs ys)) S := (show eqB false (.lst xs) (.lst ys) S Q E = Q (.bl (deqL xs ys)) S from by
  have e : eqB false (.lst xs) (.lst ys) = need (pyOk (.lst xs) ∧ pyOk (.lst ys)) (ret (.bl (xor false (deqL xs ys)))) := rfl
  rw [e, Bool.false_xor]
  exact propext ⟨fun z => z.2, fun z => ⟨⟨(py_lst h).ok (by decide), (py_lst h2).ok (by decide)⟩, z⟩⟩)
theorem q_neL (h : PyL 40 xs) (h2 : PyL 40 ys) : Rn Q E (kt (eqB true (.lst xs) (.lst ys)) S) = Q (.bl (!deqL xs ys)) S := (show eqB true (.lst xs) (.lst ys) S Q E = Q (.bl (!deqL xs ys)) S from by
  have e : eqB true (.lst xs) (.lst ys) = need (pyOk (.lst xs) ∧ pyOk (.lst ys)) (ret (.bl (xor true (deqL xs ys)))) := rfl
  rw [e, Bool.true_xor]
  exact propext ⟨fun z => z.2, fun z => ⟨⟨(py_lst h).ok (by decide), (py_lst h2).ok (by decide)⟩, z⟩⟩)
theorem z_dqI : deq (.int i) (.int j) = decide (i = j) := by show (i == j) = _; rfl
theorem z_dqS : deq (.str a) (.str b) = decide (a = b) := by show (a == b) = _; rfl
theorem z_dqB : deq (.bl x) (.bl y) = decide (x = y) := by cases x <;> cases y <;> rfl
theorem z_dqN : deq .non .non = true := rfl
theorem z_dqT : deq (.tup xs) (.tup ys) = deqL xs ys := rfl
theorem z_dqL : deq (.lst xs) (.lst ys) = deqL xs ys := rfl
theorem z_dqIS : deq (.int i) (.str b) = false := rfl
theorem z_dqSI : deq (.str b) (.int i) = false := rfl
theorem z_dqNI : deq .non (.int i) = false := rfl
theorem z_dqIN : deq (.int i) .non = false := rfl
theorem z_dqNS : deq .non (.str a) = false := rfl
theorem z_dqSN : deq (.str a) .non = false := rfl
theorem z_dqNB : deq .non (.bl x) = false := rfl
theorem z_dqBN : deq (.bl x) .non = false := rfl
theorem z_dqNT : deq .non (.tup xs) = false := rfl
theorem z_dqTN : deq (.tup xs) .non = false := rfl
theorem z_dql0 : deqL [] [] = true := rfl
theorem z_dqlC : deqL (c :: xs) (d :: ys) = (deq c d && deqL xs ys) := rfl
theorem z_dqlN : deqL [] (d :: ys) = false := rfl
theorem z_dqlM : deqL (c :: xs) [] = false := rfl
end
theorem dql_map {α : Type} [DecidableEq α] {f : α → D} (hf : ∀ x y, deq (f x) (f y) = decide (x = y)) : ∀ xs ys : List α, deqL (xs.map f) (ys.map f) = decide (xs = ys)
  | [], [] => rfl
  | [], _ :: _ => rfl
  | _ :: _, [] => rfl
  | x :: xs, y :: ys => by
    rw [List.map_cons, List.map_cons, z_dqlC, hf, dql_map hf xs ys, ← Bool.decide_and]
    simp
theorem z_dqlI {xs ys : List Int} : deqL (xs.map .int) (ys.map .int) = decide (xs = ys) := dql_map (fun _ _ => z_dqI) xs ys
theorem z_dqlS {xs ys : List Str} : deqL (xs.map .str) (ys.map .str) = decide (xs = ys) := dql_map (fun _ _ => z_dqS) xs ys
theorem deq_pr (p q : Int × Int) : deq (prD p) (prD q) = decide (p = q) := by
  unfold prD
  rw [z_dqT, z_dqlC, z_dqlC, z_dqI, z_dqI, z_dql0, Bool.and_true, ← Bool.decide_and]
  obtain ⟨a, b⟩ := p
  obtain ⟨c, d⟩ := q
  simp
theorem z_dqlP {xs ys : List (Int × Int)} : deqL (xs.map prD) (ys.map prD) = decide (xs = ys) := dql_map deq_pr xs ys
theorem z_dqlE {α : Type} {f : α → D} {xs : List α} : deqL (xs.map f) [] = xs.isEmpty := by cases xs <;> rfl
theorem z_dqlF {α : Type} {f : α → D} {xs : List α} : deqL [] (xs.map f) = xs.isEmpty := by cases xs <;> rfl

def Ss19 := And.intro (And.intro @q_eqT @q_neT) (And.intro @q_eqL @q_neL)
def Ss20 := And.intro (And.intro @q_eqT @q_neT) (And.intro @q_eqL @q_neL)
def Ss15 := And.intro (And.intro (And.intro (And.intro @z_dqI (And.intro @z_dqS @z_dqB)) (And.intro @z_dqN (And.intro @z_dqT @z_dqL))) (And.intro (And.intro @z_dqIS (And.intro @z_dqSI @z_dqNI)) (And.intro @z_dqIN (And.intro @z_dqNS @z_dqSN)))) (And.intro (And.intro (And.intro @z_dqNB (And.intro @z_dqBN @z_dqNT)) (And.intro @z_dqTN (And.intro @z_dql0 @z_dqlC))) (And.intro (And.intro @z_dqlN (And.intro @z_dqlM @z_dqlI)) (And.intro (And.intro @z_dqlS @z_dqlP) (And.intro @z_dqlE @z_dqlF))))
end Dn

set_option Elab.async false
set_option linter.all false
set_option maxRecDepth 100000
set_option maxHeartbeats 4000000
set_option pp.deepTerms false
set_option pp.deepTerms.threshold 5
set_option pp.maxSteps 1500

namespace Dn
open PySem PySem.W PySem.Spec PyProof.Rows L2 TL Bits An
section
variable {α σ : Type} {it : α → D} {xs : List α} {g : Tg} {b : Sm} {ρ : Rh} {S : Sv} {nx bk ct : Rh → Sv → Prop} {rt : D → Sv → Prop} {ex : Xn → Rh → Sv → Prop} {E : Xn → Sv → Prop}
theorem lp_st (R : σ → Rh) (I : List α → List α → σ → Prop) (x0 : σ) (e0 : ρ = R x0) (h0 : I [] xs x0)
    (step : ∀ (l : List α) (a : α) (r : List α) (x : σ) (N : Rh → Sv → Prop), xs = l ++ a :: r → I l (a :: r) x → (∀ x', I (l ++ [a]) r x' → N (R x') S) → g (it a) (R x) fun ρ' => Rs (EndsD.mk N rt nx N ex) (ks b ρ' S))
    (hend : ∀ x, I xs [] x → nx (R x) S) : Lp (EndsD.mk nx rt bk ct ex) g b ρ S (kl (xs.map it)) := by
  show forL g b (xs.map it) ρ S (EndsD.mk nx rt bk ct ex)
  refine forL_mp (fun l r ρ' S' => S' = S ∧ ∃ x, ρ' = R x ∧ I l r x) ⟨rfl, x0, e0, h0⟩ ?_ ?_
  · rintro l a r _ _ N e ⟨rfl, x, rfl, hi⟩ hN
    exact step l a r x N e hi fun x' h' => hN _ _ ⟨rfl, x', rfl, h'⟩
  · rintro _ _ ⟨rfl, x, rfl, hi⟩
    exact hend x hi
theorem lp_chk (h : ∀ a ∈ xs, ∀ N : Rh → Sv → Prop, N ρ S → g (it a) ρ fun ρ' => Rs (EndsD.mk N rt nx N ex) (ks b ρ' S)) (q : nx ρ S) : Lp (EndsD.mk nx rt bk ct ex) g b ρ S (kl (xs.map it)) :=
  lp_st (σ := Unit) (fun _ => ρ) (fun _ _ _ => True) () rfl trivial (fun l a r _ N e _ k => h a (by rw [e]; simp) N (k () trivial)) fun _ _ => q
theorem lp_any {ds : List D} (h : ∀ d ∈ ds, ∀ N : Rh → Sv → Prop, N ρ S → g d ρ fun ρ' => Rs (EndsD.mk N rt nx N ex) (ks b ρ' S)) (q : nx ρ S) : Lp (EndsD.mk nx rt bk ct ex) g b ρ S (kl ds) := by
  have e : ds = ds.map fun d => d := by simp
  rw [e]
  exact lp_chk (it := fun d => d) h q
theorem lc_map {e : Rh → M D} {f : α → D} {Q : List D → Sv → Prop} (hg : MonoG g) (h : ∀ a ∈ xs, ∀ Q' : D → Sv → Prop, Q' (f a) S → g (it a) ρ fun ρ' => Rn Q' E (kt (e ρ') S)) (q : Q (xs.map f) S) : Lc Q E g bYes e ρ S (kc (xs.map it)) :=
  compL_mp it f hg h q
theorem enum_get {xs : List D} {i : Nat} {d : D} (h : (enumL xs)[i]? = some d) : ∃ x, xs[i]? = some x ∧ d = .tup [.int (i : Nat), x] := by
  unfold enumL at h
  rw [List.getElem?_zipWith] at h
  cases e1 : (rngL 0 xs.length)[i]? with
  | none => rw [e1] at h; simp at h
  | some a =>
    cases e2 : xs[i]? with
    | none => rw [e1, e2] at h; simp at h
    | some x =>
      rw [e1, e2] at h
      obtain ⟨rfl, _⟩ := rng_get e1
      refine ⟨x, rfl, ?_⟩
      have h' := Option.some.inj h
      rw [← h', Int.zero_add]
theorem enum_len {xs : List D} : (enumL xs).length = xs.length := by unfold enumL; rw [List.length_zipWith, rng_len, Nat.min_self]
theorem lp_enum (R : σ → Rh) (I : List α → List α → σ → Prop) (x0 : σ) (e0 : ρ = R x0) (h0 : I [] xs x0)
    (step : ∀ (l : List α) (a : α) (r : List α) (x : σ) (N : Rh → Sv → Prop), xs = l ++ a :: r → I l (a :: r) x → (∀ x', I (l ++ [a]) r x' → N (R x') S) → g (.tup [.int (l.length : Nat), it a]) (R x) fun ρ' => Rs (EndsD.mk N rt nx N ex) (ks b ρ' S))
    (hend : ∀ x, I xs [] x → nx (R x) S) : Lp (EndsD.mk nx rt bk ct ex) g b ρ S (kl (enumL (xs.map it))) := by
  show forL g b (enumL (xs.map it)) ρ S (EndsD.mk nx rt bk ct ex)
  refine forL_inv (fun i ρ' S' => S' = S ∧ ∃ x, ρ' = R x ∧ I (xs.take i) (xs.drop i) x) ⟨rfl, x0, e0, h0⟩ ?_ ?_
  · rintro i d _ _ N hd ⟨rfl, x, rfl, hi⟩ hN
    obtain ⟨y, hy, rfl⟩ := enum_get hd
    rw [List.getElem?_map] at hy
    obtain ⟨a, ha, rfl⟩ := Option.map_eq_some_iff.mp hy
    obtain ⟨hl, e⟩ := List.getElem?_eq_some_iff.mp ha
    have hdr : xs.drop i = a :: xs.drop (i + 1) := by rw [List.drop_eq_getElem_cons hl, e]
    have htk : xs.take (i + 1) = xs.take i ++ [a] := by rw [List.take_succ, ha]; rfl
    have hlen : (xs.take i).length = i := by rw [List.length_take]; omega
    rw [hdr] at hi
    have h := step (xs.take i) a (xs.drop (i + 1)) x N (by rw [← hdr, List.take_append_drop]) hi fun x' h' => hN _ _ ⟨rfl, x', rfl, by rw [htk]; exact h'⟩
    rw [hlen] at h
    exact h
  · rintro _ _ ⟨rfl, x, rfl, hi⟩
    rw [enum_len, List.length_map, List.take_length, List.drop_length] at hi
    exact hend x hi
end
theorem z_signs (z : Str) : Dn.signs z = (tl z).map fun c => D.str ⟨#[c]⟩ := rfl
theorem z_rng (lo : Int) (n : Nat) : rngL lo n = (List.range n).map fun i : Nat => D.int (lo + i) := rfl
theorem z_mapp {α β : Type} {f : α → β} {xs ys : List α} : xs.map f ++ ys.map f = (xs ++ ys).map f := (List.map_append ..).symm
theorem z_join {xs : List Str} : strsL (xs.map D.str) = some xs := strsL_map xs
theorem z_blsM {α : Type} {f : α → Bool} {xs : List α} : blsL (xs.map fun x => D.bl (f x)) = some (xs.map f) := blsL_map f xs
theorem z_intsM {xs : List Int} : intsL (xs.map D.int) = some xs := intsL_map xs
theorem z_opm {α β : Type} {f : α → β} {a : α} : Option.map f (some a) = some (f a) := rfl
theorem z_opn {α β : Type} {f : α → β} : Option.map f (none : Option α) = none := rfl
theorem z_opb {α β : Type} {f : α → Option β} {a : α} : (some a).bind f = f a := rfl
section
variable {S : Sv} {Q : D → Sv → Prop} {E : Xn → Sv → Prop}
theorem q_lcK {g : Tg} {t : Rh → M Bool} {e : Rh → M D} {ds : List D} {ρ : Rh} {Q : List D → Sv → Prop} : Rn Q E (kt (compL g t e ds ρ) S) = Lc Q E g t e ρ S (kc ds) := rfl
theorem q_all' {α : Type} {f : α → Bool} {xs : List α} : Rn Q E (kt (allD [.lst (xs.map fun x => D.bl (f x))]) S) = Q (.bl (xs.all f)) S := by
  have e : allD [.lst (xs.map fun x => D.bl (f x))] S Q E = orFail ((blsL (xs.map fun x => D.bl (f x))).map fun ns => .bl (ns.all id)) S Q E := propext ⟨id, id⟩
  show allD [.lst (xs.map fun x => D.bl (f x))] S Q E = _
  rw [e, blsL_map]
  show Q (.bl ((xs.map f).all id)) S = _
  rw [List.all_map]
  rfl
theorem q_any' {α : Type} {f : α → Bool} {xs : List α} : Rn Q E (kt (anyD [.lst (xs.map fun x => D.bl (f x))]) S) = Q (.bl (xs.any f)) S := by
  have e : anyD [.lst (xs.map fun x => D.bl (f x))] S Q E = orFail ((blsL (xs.map fun x => D.bl (f x))).map fun ns => .bl (ns.any id)) S Q E := propext ⟨id, id⟩
  show anyD [.lst (xs.map fun x => D.bl (f x))] S Q E = _
  rw [e, blsL_map]
  show Q (.bl ((xs.map f).any id)) S = _
  rw [List.any_map]
  rfl
def joinK (z : Str) (o : Option (List Str)) : M D := match o with
  | some xs => need ((xs.map (·.length)).sum + xs.length * z.length ≤ 16777216) (ret (.str (Txt.join z xs)))
  | none => fail
theorem q_join {z : Str} {ds : List D} : Rn Q E (kt (joinD (.str z) [.lst ds]) S) = Rn Q E (kt (joinK z (strsL ds)) S) := by
  show joinD (.str z) [.lst ds] S Q E = joinK z (strsL ds) S Q E
  unfold joinD joinK
  cases h : strsL ds <;> simp only [h]
theorem q_joinK {z : Str} {xs : List Str} (hz : (xs.map (·.length)).sum + xs.length * z.length ≤ 16777216) : Rn Q E (kt (joinK z (some xs)) S) = Q (.str (Txt.join z xs)) S := propext ⟨fun h => h.2, fun h => ⟨hz, h⟩⟩
theorem z_strs0 : strsL [] = some [] := rfl
theorem z_strsC {a : Str} {ds : List D} : strsL (.str a :: ds) = (strsL ds).map (a :: ·) := rfl
theorem q_ixL {xs : List D} {i : Int} : Rn Q E (kt (ixD (.lst xs) (.int i)) S) = Rn Q E (kt (orFail (atI xs i)) S) := propext ⟨id, id⟩
theorem q_ixT {xs : List D} {i : Int} : Rn Q E (kt (ixD (.tup xs) (.int i)) S) = Rn Q E (kt (orFail (atI xs i)) S) := propext ⟨id, id⟩
theorem q_ixS {z : Str} {i : Int} (h : z.length ≤ sizeLine) : Rn Q E (kt (ixD (.str z) (.int i)) S) = Rn Q E (kt (orFail ((atI (tl z) i).map fun c => D.str ⟨#[c]⟩)) S) := propext ⟨fun z => z.2, fun z => ⟨h, z⟩⟩
end
theorem pickL {xs : List D} {r : Int} {S : Sv} {Q : D → Sv → Prop} {E : Xn → Sv → Prop} (h0 : 0 ≤ r) (h1 : r < xs.length) (h : ∀ d ∈ xs, Q d S) : Rn Q E (kt (orFail (atI xs r)) S) := pickD h0 h1 h
theorem z_at0 {α : Type} {a : α} {xs : List α} : atI (a :: xs) 0 = some a := atN (k := 0) rfl
theorem z_at1 {α : Type} {a b : α} {xs : List α} : atI (a :: b :: xs) 1 = some b := atN (k := 1) rfl
theorem z_at2 {α : Type} {a b c : α} {xs : List α} : atI (a :: b :: c :: xs) 2 = some c := atN (k := 2) rfl
theorem z_at3 {α : Type} {a b c d : α} {xs : List α} : atI (a :: b :: c :: d :: xs) 3 = some d := atN (k := 3) rfl
theorem z_at4 {α : Type} {a b c d e : α} {xs : List α} : atI (a :: b :: c :: d :: e :: xs) 4 = some e := atN (k := 4) rfl

def Ss4 := And.intro (And.intro (And.intro @q_lcK @q_all') (And.intro @q_any' @q_join)) (And.intro (And.intro @q_joinK @q_ixL) (And.intro @q_ixT @q_ixS))
def Ss7 := And.intro @q_joinK (And.intro @q_ixL @q_ixT)
def Ss6 := And.intro (And.intro (And.intro (And.intro @z_signs @z_rng) (And.intro @z_mapp @z_join)) (And.intro (And.intro @z_blsM @z_intsM) (And.intro @z_opm @z_opn))) (And.intro (And.intro (And.intro @z_opb @z_strs0) (And.intro @z_strsC @z_at0)) (And.intro (And.intro @z_at1 @z_at2) (And.intro @z_at3 @z_at4)))
end Dn

set_option Elab.async false
set_option linter.all false
set_option maxRecDepth 100000
set_option maxHeartbeats 4000000
set_option pp.deepTerms false
set_option pp.deepTerms.threshold 5
set_option pp.maxSteps 1500
namespace Dn
open PySem PySem.W PySem.Spec PyProof.Rows L2 TL Bits An
set_option synthInstance.maxSize 100000
set_option synthInstance.maxHeartbeats 4000000
instance {xs : List Str} {b : List D → M D} {ds : List D} [∀ ds, Fe (b ds)] : Fe (isiX xs b ds) := by unfold isiX; split <;> infer_instance
instance {cs : List Str} {f : Str} {x : D} : Fe (xfD cs f x) := by unfold xfD; split <;> first | (split <;> infer_instance) | infer_instance
instance {d : D} {ds : List D} : Fe (lindexB d ds) := by unfold lindexB; split <;> infer_instance
instance {ds : List D} : Fe (reprD ds) := by unfold reprD; split <;> infer_instance
def c__law_source : Sm :=
    (sSeq (sSet (gN 2) (eBin addD (eBin ixD (eBin addD (rd 0) (fun ρ => bind ((aCons (cD (.int 0)) aNil) ρ) lstM)) (cD (.int 0))) (eBin mulD (cD (.int 7919)) (rd 1))))
    (sSeq (sIf (fun ρ => bind (eBin ltD (rd 1) (fun ρ => bind ((aCons (rd 0) aNil) ρ) lenD) ρ) asB) (sSet (gN 2) (eBin ixD (rd 0) (rd 1)))
    sNil)
    (sRet (fun ρ => bind ((aCons (rd 2) (aCons (rd 2) (aCons (cD (.int 0)) aNil))) ρ) srcM))))
instance : FeS c__law_source := by unfold c__law_source; infer_instance
def d__law_source : List D → M D := mkF 2 3 c__law_source
instance {ds : List D} : Fe (d__law_source ds) := by unfold d__law_source; infer_instance
def c__law_mix : Sm :=
    (sSeq (sSet (gN 2) (eBin addD (eBin addD (eBin addD (eBin modD (fun ρ => bind ((aCons (rd 0) aNil) ρ) intD) (cD (.int 2147483629))) (eBin mulD (cD (.int 30011)) (rd 1))) (eBin modD (fun ρ => bind ((aCons (eBin fdivD (rd 0) (cD (.int 2147483629))) aNil) ρ) intD) (cD (.int 1000003)))) (cD (.int 1))))
    (sSeq (sSet (gN 2) (eBin modD (fun ρ => bind ((aCons (eBin mulD (rd 2) (cD (.int 48271))) aNil) ρ) intD) (cD (.int 2147483629))))
    (sSeq (sSet (gN 2) (eBin modD (fun ρ => bind ((aCons (eBin mulD (rd 2) (eBin addD (eBin addD (eBin fdivD (rd 2) (cD (.int 1021))) (cD (.int 65539))) (rd 1))) aNil) ρ) intD) (cD (.int 2147483587))))
    (sRet (eBin modD (fun ρ => bind ((aCons (eBin mulD (rd 2) (eBin addD (eBin fdivD (rd 2) (cD (.int 2011))) (cD (.int 40014)))) aNil) ρ) intD) (cD (.int 2147483563)))))))
instance : FeS c__law_mix := by unfold c__law_mix; infer_instance
def d__law_mix : List D → M D := mkF 2 3 c__law_mix
instance {ds : List D} : Fe (d__law_mix ds) := by unfold d__law_mix; infer_instance
def c__law_draw : Sm :=
    (sSeq (sIf (fun ρ => bind (eBin geD (eBin ixD (rd 0) (cD (.int 0))) (eBin powD (cD (.int 10)) (cD (.int 18))) ρ) asB) (sSeq (sSet (gN 2) (eBin modD (fun ρ => bind ((aCons (eBin ixD (rd 0) (cD (.int 0))) aNil) ρ) intD) (rd 1)))
    (sSeq (sSrc (rd 0) (cD (.int 0)) (eBin fdivD (eBin ixD (rd 0) (cD (.int 0))) (rd 1)))
    (sRet (rd 2))))
    sNil)
    (sSeq (sSrc (rd 0) (cD (.int 2)) (eBin addD (eBin ixD (rd 0) (cD (.int 2))) (cD (.int 1))))
    (sRet (eBin modD (fun ρ => bind ((aCons (fun ρ => bind ((aCons (eBin ixD (rd 0) (cD (.int 1))) (aCons (eBin ixD (rd 0) (cD (.int 2))) aNil)) ρ) d__law_mix) aNil) ρ) intD) (rd 1)))))
instance : FeS c__law_draw := by unfold c__law_draw; infer_instance
def d__law_draw : List D → M D := mkF 2 3 c__law_draw
instance {ds : List D} : Fe (d__law_draw ds) := by unfold d__law_draw; infer_instance
def c__law_number : Sm :=
    (sSeq (sSet (gN 2) (eBin subD (eBin shlD (cD (.int 1)) (rd 1)) (cD (.int 1))))
    (sSeq (sSet (gN 3) (fun ρ => bind ((aCons (rd 0) (aCons (cD (.int 4)) aNil)) ρ) d__law_draw))
    (sSeq (sIf (fun ρ => bind (eBin (eqB false) (rd 3) (cD (.int 0)) ρ) asB) (sRet (eBin ixD (fun ρ => bind ((aCons (cD (.int 0)) (aCons (cD (.int 1)) (aCons (rd 2) (aCons (eBin subD (rd 2) (cD (.int 1))) aNil)))) ρ) lstM) (fun ρ => bind ((aCons (rd 0) (aCons (cD (.int 4)) aNil)) ρ) d__law_draw)))
    sNil)
    (sSeq (sIf (fun ρ => bind (eBin (eqB false) (rd 3) (cD (.int 1)) ρ) asB) (sRet (fun ρ => bind ((aCons (rd 2) (aCons (eBin subD (eBin addD (eBin shlD (cD (.int 1)) (fun ρ => bind ((aCons (rd 0) (aCons (eBin addD (rd 1) (cD (.int 1))) aNil)) ρ) d__law_draw)) (fun ρ => bind ((aCons (rd 0) (aCons (cD (.int 3)) aNil)) ρ) d__law_draw)) (cD (.int 1))) aNil)) ρ) minD))
    sNil)
    (sSeq (sSet (gN 4) (eBin ixD (fun ρ => bind ((aCons (cD (.int 8)) (aCons (cD (.int 16)) aNil)) ρ) lstM) (fun ρ => bind ((aCons (eBin (eqB false) (rd 1) (cD (.int 128))) aNil) ρ) intD)))
    (sSeq (sSet (gN 5) (cD (.int 0)))
    (sSeq (sFor (fun ρ => bind ((aCons (eBin fdivD (rd 1) (rd 4)) aNil) ρ) rng1D) (gN 6)
    (sWip [6, 7] (sSeq (sSet (gN 7) (fun ρ => bind ((aCons (cD (.int 0)) (aCons (cD (.int 0)) (aCons (cD (.int 0)) (aCons (cD (.int 1)) (aCons (eBin subD (eBin shlD (cD (.int 1)) (rd 4)) (cD (.int 1))) (aCons (fun ρ => bind ((aCons (rd 0) (aCons (eBin shlD (cD (.int 1)) (rd 4)) aNil)) ρ) d__law_draw) aNil)))))) ρ) lstM))
    (sSet (gN 5) (eBin addD (eBin mulD (rd 5) (eBin shlD (cD (.int 1)) (rd 4))) (eBin ixD (rd 7) (fun ρ => bind ((aCons (rd 0) (aCons (cD (.int 6)) aNil)) ρ) d__law_draw)))))))
    (sRet (rd 5)))))))))
instance : FeS c__law_number := by unfold c__law_number; infer_instance
def d__law_number : List D → M D := mkF 2 8 c__law_number
instance {ds : List D} : Fe (d__law_number ds) := by unfold d__law_number; infer_instance
def ta_number_0 : List (Str × Atr) := [("Address4", .fld), ("Address6", .fld)]
instance : FeA ta_number_0 := by unfold ta_number_0; infer_instance
def c_is_integer : Sm :=
    (sRet (eAnd truD (fun ρ => bind ((aCons (rd 0) (aCons (cD (.ty "int")) aNil)) ρ) (isiD csA)) (eNot truD (fun ρ => bind ((aCons (rd 0) (aCons (cD (.ty "bool")) aNil)) ρ) (isiD csA)))))
instance : FeS c_is_integer := by unfold c_is_integer; infer_instance
def d_is_integer : List D → M D := mkF 1 1 c_is_integer
instance {ds : List D} : Fe (d_is_integer ds) := by unfold d_is_integer; infer_instance
def c_is_from : Sm :=
    (sRet (eAnd truD (fun ρ => bind ((aCons (rd 0) aNil) ρ) d_is_integer) (eChain leD leD (rd 1) (rd 0) (rd 2))))
instance : FeS c_is_from := by unfold c_is_from; infer_instance
def d_is_from : List D → M D := mkF 3 3 c_is_from
instance {ds : List D} : Fe (d_is_from ds) := by unfold d_is_from; infer_instance
def c_part_fault : Sm :=
    (sSeq (sIf (fun ρ => bind (eBin (eqB false) (rd 0) (cD (.str "")) ρ) asB) (sRet (cD (.str "empty")))
    sNil)
    (sSeq (sIf (bNot (fun ρ => bind ((fun ρ => bind ((aCons (eLc (fun ρ => bind ((rd 0) ρ) itD) [1] (gN 1) bYes (eBin (inD false) (rd 1) (cD (.str "0123456789")))) aNil) ρ) allD) ρ) truD)) (sRet (cD (.str "digits")))
    sNil)
    (sSeq (sIf (fun ρ => bind (eBin gtD (fun ρ => bind ((aCons (rd 0) aNil) ρ) lenD) (cD (.int 3)) ρ) asB) (sRet (cD (.str "long")))
    sNil)
    (sSeq (sIf (bAnd (fun ρ => bind (eBin (eqB false) (eBin ixD (rd 0) (cD (.int 0))) (cD (.str "0")) ρ) asB) (fun ρ => bind (eBin (eqB true) (rd 0) (cD (.str "0")) ρ) asB)) (sRet (cD (.str "zero")))
    sNil)
    (sRet (eIf (fun ρ => bind (eBin gtD (fun ρ => bind ((aCons (rd 0) aNil) ρ) intD) (cD (.int 255)) ρ) asB) (cD (.str "large")) (cD .non)))))))
instance : FeS c_part_fault := by unfold c_part_fault; infer_instance
def d_part_fault : List D → M D := mkF 1 2 c_part_fault
instance {ds : List D} : Fe (d_part_fault ds) := by unfold d_part_fault; infer_instance
def c_quad_fault : Sm :=
    (sSeq (sSet (gN 1) (eMt "str" splitD (rd 0) (aCons (cD (.str ".")) aNil)))
    (sSeq (sIf (fun ρ => bind (eBin (eqB true) (fun ρ => bind ((aCons (rd 1) aNil) ρ) lenD) (cD (.int 4)) ρ) asB) (sRet (cD (.str "parts")))
    sNil)
    (sSeq (sFor (fun ρ => bind ((rd 1) ρ) itD) (gN 2)
    (sWip [2] (sIfW 3 (isD true) (fun ρ => bind ((aCons (rd 2) aNil) ρ) d_part_fault) (cD .non) (sRet (rd 3)) sNil)))
    (sRet (cD .non)))))
instance : FeS c_quad_fault := by unfold c_quad_fault; infer_instance
def d_quad_fault : List D → M D := mkF 1 4 c_quad_fault
instance {ds : List D} : Fe (d_quad_fault ds) := by unfold d_quad_fault; infer_instance
def c_read_quad : Sm :=
    (sSeq (sSet (gN 1) (fun ρ => bind ((aCons (rd 0) aNil) ρ) d_quad_fault))
    (sSeq (sIf (fun ρ => bind (eBin (isD true) (rd 1) (cD .non) ρ) asB) (sRaise fun ρ => bind ((rd 1) ρ) fun d => ret ⟨"BadText", ["why"], [d]⟩)
    sNil)
    (sSeq (sSet (gN 2) (cD (.int 0)))
    (sSeq (sFor (fun ρ => bind ((eMt "str" splitD (rd 0) (aCons (cD (.str ".")) aNil)) ρ) itD) (gN 3)
    (sWip [3] (sSet (gN 2) (eBin addD (eBin mulD (rd 2) (cD (.int 256))) (fun ρ => bind ((aCons (rd 3) aNil) ρ) intD)))))
    (sRet (rd 2))))))
instance : FeS c_read_quad := by unfold c_read_quad; infer_instance
def d_read_quad : List D → M D := mkF 1 4 c_read_quad
instance {ds : List D} : Fe (d_read_quad ds) := by unfold d_read_quad; infer_instance
def c_quad_place : Sm :=
    (sRet (eBin addD (eMt "str" rfindD (rd 0) (aCons (cD (.str ":")) aNil)) (cD (.int 1))))
instance : FeS c_quad_place := by unfold c_quad_place; infer_instance
def d_quad_place : List D → M D := mkF 1 1 c_quad_place
instance {ds : List D} : Fe (d_quad_place ds) := by unfold d_quad_place; infer_instance
def c_has_wrong_quad : Sm :=
    (sSeq (sSet (gN 1) (fun ρ => bind ((aCons (rd 0) aNil) ρ) d_quad_place))
    (sRet (eAnd truD (eBin (inD false) (cD (.str ".")) (rd 0)) (eOr truD (eBin (inD false) (cD (.str ".")) (eSl (rd 0) oNone (fun ρ => bind ((rd 1) ρ) asI))) (eBin (isD true) (fun ρ => bind ((aCons (eSl (rd 0) (fun ρ => bind ((rd 1) ρ) asI) oNone) aNil) ρ) d_quad_fault) (cD .non))))))
instance : FeS c_has_wrong_quad := by unfold c_has_wrong_quad; infer_instance
def d_has_wrong_quad : List D → M D := mkF 1 2 c_has_wrong_quad
instance {ds : List D} : Fe (d_has_wrong_quad ds) := by unfold d_has_wrong_quad; infer_instance
def c_has_wrong_gaps : Sm :=
    (sRet (eOr truD (eBin (inD false) (cD (.str ":::")) (rd 0)) (eBin gtD (eMt "str" countD (rd 0) (aCons (cD (.str "::")) aNil)) (cD (.int 1)))))
instance : FeS c_has_wrong_gaps := by unfold c_has_wrong_gaps; infer_instance
def d_has_wrong_gaps : List D → M D := mkF 1 1 c_has_wrong_gaps
instance {ds : List D} : Fe (d_has_wrong_gaps ds) := by unfold d_has_wrong_gaps; infer_instance
def c_has_wrong_ends : Sm :=
    (sSeq (sIf (bAnd (fun ρ => bind ((eMt "str" startswithD (rd 0) (aCons (cD (.str ":")) aNil)) ρ) truD) (bNot (fun ρ => bind ((eMt "str" startswithD (rd 0) (aCons (cD (.str "::")) aNil)) ρ) truD))) (sRet (cD (.bl true)))
    sNil)
    (sRet (eAnd truD (eMt "str" endswithD (rd 0) (aCons (cD (.str ":")) aNil)) (eNot truD (eMt "str" endswithD (rd 0) (aCons (cD (.str "::")) aNil))))))
instance : FeS c_has_wrong_ends := by unfold c_has_wrong_ends; infer_instance
def d_has_wrong_ends : List D → M D := mkF 1 1 c_has_wrong_ends
instance {ds : List D} : Fe (d_has_wrong_ends ds) := by unfold d_has_wrong_ends; infer_instance
def c_hex_groups : Sm :=
    (sRet (eIf (fun ρ => bind (eBin (eqB false) (rd 0) (cD (.str "")) ρ) asB) (fun ρ => bind (aNil ρ) lstM) (eMt "str" splitD (rd 0) (aCons (cD (.str ":")) aNil))))
instance : FeS c_hex_groups := by unfold c_hex_groups; infer_instance
def d_hex_groups : List D → M D := mkF 1 1 c_hex_groups
instance {ds : List D} : Fe (d_hex_groups ds) := by unfold d_hex_groups; infer_instance
def c_parts_of : Sm :=
    (sSeq (sSet (gN 1) (fun ρ => bind ((aCons (rd 0) aNil) ρ) d_quad_place))
    (sSeq (sSet (gN 2) (eIf (fun ρ => bind (eBin (inD false) (cD (.str ".")) (rd 0) ρ) asB) (eSl (rd 0) (fun ρ => bind ((rd 1) ρ) asI) oNone) (cD (.str ""))))
    (sSeq (sSet (gN 3) (eIf (fun ρ => bind (eBin (eqB true) (rd 2) (cD (.str "")) ρ) asB) (eSl (rd 0) oNone (fun ρ => bind ((rd 1) ρ) asI)) (rd 0)))
    (sSeq (sIf (fun ρ => bind (eBin (inD false) (cD (.str "::")) (rd 3) ρ) asB) (sSeq (sSet (gT (gsCons (gN 4) (gsCons (gN 5) (gsCons (gN 6) gsNil)))) (eMt "str" partD (rd 3) (aCons (cD (.str "::")) aNil)))
    (sRet (fun ρ => bind ((aCons (fun ρ => bind ((aCons (rd 4) aNil) ρ) d_hex_groups) (aCons (fun ρ => bind ((aCons (eMt "str" rstripD (rd 6) (aCons (cD (.str ":")) aNil)) aNil) ρ) d_hex_groups) (aCons (rd 2) aNil))) ρ) tupM)))
    sNil)
    (sRet (fun ρ => bind ((aCons (fun ρ => bind ((aCons (eMt "str" rstripD (rd 3) (aCons (cD (.str ":")) aNil)) aNil) ρ) d_hex_groups) (aCons (cD .non) (aCons (rd 2) aNil))) ρ) tupM))))))
instance : FeS c_parts_of := by unfold c_parts_of; infer_instance
def d_parts_of : List D → M D := mkF 1 7 c_parts_of
instance {ds : List D} : Fe (d_parts_of ds) := by unfold d_parts_of; infer_instance
def c_has_wrong_count : Sm :=
    (sSeq (sSet (gN 3) (eBin addD (eBin addD (fun ρ => bind ((aCons (rd 0) aNil) ρ) lenD) (fun ρ => bind ((aCons (eOrN (rd 1)) aNil) ρ) lenD)) (eBin mulD (cD (.int 2)) (fun ρ => bind ((aCons (eBin (eqB true) (rd 2) (cD (.str ""))) aNil) ρ) intD))))
    (sRet (eIf (fun ρ => bind (eBin (isD false) (rd 1) (cD .non) ρ) asB) (eBin (eqB true) (rd 3) (cD (.int 8))) (eBin gtD (rd 3) (cD (.int 7))))))
instance : FeS c_has_wrong_count := by unfold c_has_wrong_count; infer_instance
def d_has_wrong_count : List D → M D := mkF 3 4 c_has_wrong_count
instance {ds : List D} : Fe (d_has_wrong_count ds) := by unfold d_has_wrong_count; infer_instance
def c_groups_fault : Sm :=
    (sSeq (sIf (bNot (fun ρ => bind ((fun ρ => bind ((aCons (eLc (fun ρ => bind ((rd 0) ρ) itD) [4] (gN 4) bYes (eOr truD (eBin (inD false) (eMt "str" lowerD (rd 4) aNil) (cD (.str "0123456789abcdef"))) (eBin (inD false) (rd 4) (cD (.str ":."))))) aNil) ρ) allD) ρ) truD)) (sRet (cD (.str "digits")))
    sNil)
    (sSeq (sIf (fun ρ => bind ((fun ρ => bind ((aCons (rd 0) aNil) ρ) d_has_wrong_quad) ρ) truD) (sRet (cD (.str "quad")))
    sNil)
    (sSeq (sIf (fun ρ => bind ((fun ρ => bind ((aCons (rd 0) aNil) ρ) d_has_wrong_gaps) ρ) truD) (sRet (cD (.str "gaps")))
    sNil)
    (sSeq (sIf (fun ρ => bind ((fun ρ => bind ((aCons (rd 0) aNil) ρ) d_has_wrong_ends) ρ) truD) (sRet (cD (.str "ends")))
    sNil)
    (sSeq (sSet (gT (gsCons (gN 1) (gsCons (gN 2) (gsCons (gN 3) gsNil)))) (fun ρ => bind ((aCons (rd 0) aNil) ρ) d_parts_of))
    (sSeq (sIf (bNot (fun ρ => bind ((fun ρ => bind ((aCons (eLc (fun ρ => bind ((eBin addD (rd 1) (eOrN (rd 2))) ρ) itD) [5] (gN 5) bYes (eBin ltD (fun ρ => bind ((aCons (rd 5) aNil) ρ) lenD) (cD (.int 5)))) aNil) ρ) allD) ρ) truD)) (sRet (cD (.str "long")))
    sNil)
    (sRet (eIf (fun ρ => bind ((fun ρ => bind ((aCons (rd 1) (aCons (rd 2) (aCons (rd 3) aNil))) ρ) d_has_wrong_count) ρ) truD) (cD (.str "groups")) (cD .non)))))))))
instance : FeS c_groups_fault := by unfold c_groups_fault; infer_instance
def d_groups_fault : List D → M D := mkF 1 6 c_groups_fault
instance {ds : List D} : Fe (d_groups_fault ds) := by unfold d_groups_fault; infer_instance
def c_hex_number : Sm :=
    (sSeq (sSet (gN 1) (cD (.int 0)))
    (sSeq (sFor (fun ρ => bind ((eMt "str" lowerD (rd 0) aNil) ρ) itD) (gN 2)
    (sWip [2] (sSet (gN 1) (eBin addD (eBin mulD (rd 1) (cD (.int 16))) (eMt "str" indexD (cD (.str "0123456789abcdef")) (aCons (rd 2) aNil))))))
    (sRet (rd 1))))
instance : FeS c_hex_number := by unfold c_hex_number; infer_instance
def d_hex_number : List D → M D := mkF 1 3 c_hex_number
instance {ds : List D} : Fe (d_hex_number ds) := by unfold d_hex_number; infer_instance
def c_read_groups : Sm :=
    (sSeq (sSet (gN 1) (fun ρ => bind ((aCons (rd 0) aNil) ρ) d_groups_fault))
    (sSeq (sIf (fun ρ => bind (eBin (isD true) (rd 1) (cD .non) ρ) asB) (sRaise fun ρ => bind ((rd 1) ρ) fun d => ret ⟨"BadText", ["why"], [d]⟩)
    sNil)
    (sSeq (sSet (gT (gsCons (gN 2) (gsCons (gN 3) (gsCons (gN 4) gsNil)))) (fun ρ => bind ((aCons (rd 0) aNil) ρ) d_parts_of))
    (sSeq (sSet (gN 5) (eLc (fun ρ => bind ((eOrN (rd 3)) ρ) itD) [10] (gN 10) bYes (fun ρ => bind ((aCons (rd 10) aNil) ρ) d_hex_number)))
    (sSeq (sSet (gN 6) (eLc (fun ρ => bind ((rd 2) ρ) itD) [10] (gN 10) bYes (fun ρ => bind ((aCons (rd 10) aNil) ρ) d_hex_number)))
    (sSeq (sIf (fun ρ => bind (eBin (eqB true) (rd 4) (cD (.str "")) ρ) asB) (sSeq (sSet (gN 7) (fun ρ => bind ((aCons (rd 4) aNil) ρ) d_read_quad))
    (sSeq (sSet (gN 8) (fun ρ => bind ((aCons (eBin shrD (rd 7) (cD (.int 16))) (aCons (eBin andD (rd 7) (cD (.int 65535))) aNil)) ρ) lstM))
    (sSet (gT (gsCons (gN 6) (gsCons (gN 5) gsNil))) (eIf (fun ρ => bind (eBin (isD true) (rd 3) (cD .non) ρ) asB) (fun ρ => bind ((aCons (rd 6) (aCons (eBin addD (rd 5) (rd 8)) aNil)) ρ) tupM) (fun ρ => bind ((aCons (eBin addD (rd 6) (rd 8)) (aCons (rd 5) aNil)) ρ) tupM)))))
    sNil)
    (sSeq (sSet (gN 9) (cD (.int 0)))
    (sSeq (sFor (fun ρ => bind ((eBin addD (eBin addD (rd 6) (eBin mulD (fun ρ => bind ((aCons (cD (.int 0)) aNil) ρ) lstM) (eBin subD (eBin subD (cD (.int 8)) (fun ρ => bind ((aCons (rd 6) aNil) ρ) lenD)) (fun ρ => bind ((aCons (rd 5) aNil) ρ) lenD)))) (rd 5)) ρ) itD) (gN 10)
    (sSet (gN 9) (eBin addD (eBin mulD (rd 9) (cD (.int 65536))) (rd 10))))
    (sRet (rd 9))))))))))
instance : FeS c_read_groups := by unfold c_read_groups; infer_instance
def d_read_groups : List D → M D := mkF 1 11 c_read_groups
instance {ds : List D} : Fe (d_read_groups ds) := by unfold d_read_groups; infer_instance
def c_number_of : Sm :=
    (sSeq (sIf (fun ρ => bind ((fun ρ => bind ((aCons (rd 0) aNil) ρ) d_is_integer) ρ) truD) (sSeq (sIf (bNot (fun ρ => bind ((fun ρ => bind ((aCons (rd 0) (aCons (cD (.int 0)) (aCons (eBin subD (eBin shlD (cD (.int 1)) (rd 1)) (cD (.int 1))) aNil))) ρ) d_is_from) ρ) truD)) (sRaise fun ρ => bind ((rd 0) ρ) fun d => ret ⟨"BadNumber", ["value"], [d]⟩)
    sNil)
    (sRet (rd 0)))
    sNil)
    (sSeq (sIf (fun ρ => bind ((fun ρ => bind ((aCons (rd 0) (aCons (cD (.ty "str")) aNil)) ρ) (isiD csA)) ρ) truD) (sRet (eIf (fun ρ => bind (eBin (eqB false) (rd 1) (cD (.int 32)) ρ) asB) (fun ρ => bind ((aCons (rd 0) aNil) ρ) d_read_quad) (fun ρ => bind ((aCons (rd 0) aNil) ρ) d_read_groups)))
    sNil)
    (sSeq (sIf (bNot (fun ρ => bind ((fun ρ => bind ((aCons (rd 0) (aCons (cD (.ty "bytes")) aNil)) ρ) (isiD csA)) ρ) truD)) (sRaise fun _ => ret ⟨"BadKind", [], []⟩)
    sNil)
    (sSeq (sIf (fun ρ => bind (eBin (eqB true) (fun ρ => bind ((aCons (rd 0) aNil) ρ) lenD) (eBin fdivD (rd 1) (cD (.int 8))) ρ) asB) (sRaise fun ρ => bind ((fun ρ => bind ((aCons (rd 0) aNil) ρ) lenD) ρ) fun d => ret ⟨"BadBytes", ["length"], [d]⟩)
    sNil)
    (sRet (fun ρ => bind ((aCons (rd 0) (aCons (cD (.str "big")) aNil)) ρ) fromBD))))))
instance : FeS c_number_of := by unfold c_number_of; infer_instance
def d_number_of : List D → M D := mkF 2 2 c_number_of
instance {ds : List D} : Fe (d_number_of ds) := by unfold d_number_of; infer_instance
def c_Address4___init__ : Sm :=
    (sFldI 0 "Address4" "number" (eIf (fun ρ => bind ((fun ρ => bind ((aCons (rd 1) (aCons (cD (.cls "Address4")) aNil)) ρ) (isiD csA)) ρ) truD) (fun ρ => bind ((rd 1) ρ) (atrD ta_number_0 "number")) (fun ρ => bind ((aCons (rd 1) (aCons (cD (.int 32)) aNil)) ρ) d_number_of)))
instance : FeS c_Address4___init__ := by unfold c_Address4___init__; infer_instance
def i_Address4___init__ : List D → M (List Str × List D) := mkI "Address4" 1 1 c_Address4___init__
instance {ds : List D} : Fe (i_Address4___init__ ds) := by unfold i_Address4___init__; infer_instance
def c_Address6___init__ : Sm :=
    (sFldI 0 "Address6" "number" (eIf (fun ρ => bind ((fun ρ => bind ((aCons (rd 1) (aCons (cD (.cls "Address6")) aNil)) ρ) (isiD csA)) ρ) truD) (fun ρ => bind ((rd 1) ρ) (atrD ta_number_0 "number")) (fun ρ => bind ((aCons (rd 1) (aCons (cD (.int 128)) aNil)) ρ) d_number_of)))
instance : FeS c_Address6___init__ := by unfold c_Address6___init__; infer_instance
def i_Address6___init__ : List D → M (List Str × List D) := mkI "Address6" 1 1 c_Address6___init__
instance {ds : List D} : Fe (i_Address6___init__ ds) := by unfold i_Address6___init__; infer_instance
def c__law_marks : Sm :=
    (sSeq (sSet (gN 1) (fun ρ => bind ((aCons (fun ρ => bind ((aCons (rd 0) (aCons (cD (.cls "BadKind")) aNil)) ρ) (isiX xsA (isiD csA))) (aCons (fun ρ => bind ((aCons (rd 0) (aCons (cD (.cls "BadNumber")) aNil)) ρ) (isiX xsA (isiD csA))) (aCons (fun ρ => bind ((aCons (rd 0) (aCons (cD (.cls "BadText")) aNil)) ρ) (isiX xsA (isiD csA))) (aCons (fun ρ => bind ((aCons (rd 0) (aCons (cD (.cls "BadBytes")) aNil)) ρ) (isiX xsA (isiD csA))) aNil)))) ρ) lstM))
    (sSeq (sSet (gN 1) (eBin addD (rd 1) (fun ρ => bind ((aCons (fun ρ => bind ((aCons (rd 0) (aCons (cD (.cls "BadPrefix")) aNil)) ρ) (isiX xsA (isiD csA))) (aCons (fun ρ => bind ((aCons (rd 0) (aCons (cD (.cls "HostBits")) aNil)) ρ) (isiX xsA (isiD csA))) (aCons (fun ρ => bind ((aCons (rd 0) (aCons (cD (.cls "Mixed")) aNil)) ρ) (isiX xsA (isiD csA))) (aCons (fun ρ => bind ((aCons (rd 0) (aCons (cD (.cls "NotWithin")) aNil)) ρ) (isiX xsA (isiD csA))) aNil)))) ρ) lstM)))
    (sSeq (sSet (gN 1) (eBin addD (rd 1) (fun ρ => bind ((aCons (fun ρ => bind ((aCons (rd 0) (aCons (cD (.cls "BadRange")) aNil)) ρ) (isiX xsA (isiD csA))) (aCons (fun ρ => bind ((aCons (rd 0) (aCons (cD (.cls "BadWord")) aNil)) ρ) (isiX xsA (isiD csA))) (aCons (fun ρ => bind ((aCons (rd 0) (aCons (cD (.cls "NotThere")) aNil)) ρ) (isiX xsA (isiD csA))) (aCons (fun ρ => bind ((aCons (rd 0) (aCons (cD (.cls "NoMatch")) aNil)) ρ) (isiX xsA (isiD csA))) aNil)))) ρ) lstM)))
    (sRet (rd 1)))))
instance : FeS c__law_marks := by unfold c__law_marks; infer_instance
def d__law_marks : List D → M D := mkF 1 2 c__law_marks
instance {ds : List D} : Fe (d__law_marks ds) := by unfold d__law_marks; infer_instance
def c_Address4___eq__ : Sm :=
    (sSeq (sIf (bNot (fun ρ => bind ((fun ρ => bind ((aCons (rd 1) (aCons (cD (.cls "Address4")) aNil)) ρ) (isiD csA)) ρ) truD)) (sRet (cD (.bl false)))
    sNil)
    (sRet (eBin (eqB false) (fun ρ => bind ((rd 0) ρ) (atrD ta_number_0 "number")) (fun ρ => bind ((rd 1) ρ) (atrD ta_number_0 "number")))))
instance : FeS c_Address4___eq__ := by unfold c_Address4___eq__; infer_instance
def d_Address4___eq__ : List D → M D := mkF 2 2 c_Address4___eq__
instance {ds : List D} : Fe (d_Address4___eq__ ds) := by unfold d_Address4___eq__; infer_instance
def c_Address6___eq__ : Sm :=
    (sSeq (sIf (bNot (fun ρ => bind ((fun ρ => bind ((aCons (rd 1) (aCons (cD (.cls "Address6")) aNil)) ρ) (isiD csA)) ρ) truD)) (sRet (cD (.bl false)))
    sNil)
    (sRet (eBin (eqB false) (fun ρ => bind ((rd 0) ρ) (atrD ta_number_0 "number")) (fun ρ => bind ((rd 1) ρ) (atrD ta_number_0 "number")))))
instance : FeS c_Address6___eq__ := by unfold c_Address6___eq__; infer_instance
def d_Address6___eq__ : List D → M D := mkF 2 2 c_Address6___eq__
instance {ds : List D} : Fe (d_Address6___eq__ ds) := by unfold d_Address6___eq__; infer_instance
def tm___eq___8 : Fns := [("Address4", d_Address4___eq__), ("Address6", d_Address6___eq__)]
instance : FeT tm___eq___8 := by unfold tm___eq___8; infer_instance
def tm___str___10 : Fns := []
instance : FeT tm___str___10 := by unfold tm___str___10; infer_instance
def c_quad_parts : Sm :=
    (sRet (eLc (fun ρ => bind ((fun ρ => bind ((aCons (cD (.int 24)) (aCons (cD (.int 16)) (aCons (cD (.int 8)) (aCons (cD (.int 0)) aNil)))) ρ) tupM) ρ) itD) [1] (gN 1) bYes (fun ρ => bind ((eBin andD (eBin shrD (rd 0) (rd 1)) (cD (.int 255))) ρ) (fmtD tm___str___10))))
instance : FeS c_quad_parts := by unfold c_quad_parts; infer_instance
def d_quad_parts : List D → M D := mkF 1 2 c_quad_parts
instance {ds : List D} : Fe (d_quad_parts ds) := by unfold d_quad_parts; infer_instance
def c_quad_text : Sm :=
    (sRet (eMt "str" joinD (cD (.str ".")) (aCons (fun ρ => bind ((aCons (rd 0) aNil) ρ) d_quad_parts) aNil)))
instance : FeS c_quad_text := by unfold c_quad_text; infer_instance
def d_quad_text : List D → M D := mkF 1 1 c_quad_text
instance {ds : List D} : Fe (d_quad_text ds) := by unfold d_quad_text; infer_instance
def c_Address4___str__ : Sm :=
    (sRet (fun ρ => bind ((fun ρ => bind ((aCons (fun ρ => bind ((rd 0) ρ) (atrD ta_number_0 "number")) aNil) ρ) d_quad_text) ρ) (fmtD tm___str___10)))
instance : FeS c_Address4___str__ := by unfold c_Address4___str__; infer_instance
def d_Address4___str__ : List D → M D := mkF 1 1 c_Address4___str__
instance {ds : List D} : Fe (d_Address4___str__ ds) := by unfold d_Address4___str__; infer_instance
def c_group_numbers : Sm :=
    (sRet (eLc (fun ρ => bind ((aCons (cD (.int 8)) aNil) ρ) rng1D) [1] (gN 1) bYes (eBin andD (eBin shrD (rd 0) (eBin subD (cD (.int 112)) (eBin mulD (cD (.int 16)) (rd 1)))) (cD (.int 65535)))))
instance : FeS c_group_numbers := by unfold c_group_numbers; infer_instance
def d_group_numbers : List D → M D := mkF 1 2 c_group_numbers
instance {ds : List D} : Fe (d_group_numbers ds) := by unfold d_group_numbers; infer_instance
def c_longest_run : Sm :=
    (sSeq (sSet (gT (gsCons (gN 1) (gsCons (gN 2) gsNil))) (fun ρ => bind ((aCons (cD (.int 0)) (aCons (cD (.int 0)) aNil)) ρ) tupM))
    (sSeq (sSet (gN 3) (cD (.int 0)))
    (sSeq (sFor (fun ρ => bind ((aCons (rd 0) aNil) ρ) enumD) (gT (gsCons (gN 4) (gsCons (gN 5) gsNil)))
    (sWip [5, 4] (sIf (fun ρ => bind (eBin (eqB true) (rd 5) (cD (.int 0)) ρ) asB) (sSet (gN 3) (eBin addD (rd 4) (cD (.int 1))))
    (sIf (fun ρ => bind (eBin gtD (eBin subD (eBin addD (rd 4) (cD (.int 1))) (rd 3)) (rd 2) ρ) asB) (sPar 1 2 (aCons (rd 3) (aCons (eBin subD (eBin addD (rd 4) (cD (.int 1))) (rd 3)) aNil)))
    sNil))))
    (sRet (fun ρ => bind ((aCons (rd 1) (aCons (rd 2) aNil)) ρ) tupM)))))
instance : FeS c_longest_run := by unfold c_longest_run; infer_instance
def d_longest_run : List D → M D := mkF 1 6 c_longest_run
instance {ds : List D} : Fe (d_longest_run ds) := by unfold d_longest_run; infer_instance
def c_groups_text : Sm :=
    (sSeq (sSet (gN 1) (fun ρ => bind ((aCons (rd 0) aNil) ρ) d_group_numbers))
    (sSeq (sSet (gT (gsCons (gN 2) (gsCons (gN 3) gsNil))) (fun ρ => bind ((aCons (rd 1) aNil) ρ) d_longest_run))
    (sSeq (sSet (gN 4) (eLc (fun ρ => bind ((rd 1) ρ) itD) [5] (gN 5) bYes (fun ρ => bind ((rd 5) ρ) (hexD hexS))))
    (sSeq (sIf (fun ρ => bind (eBin ltD (rd 3) (cD (.int 2)) ρ) asB) (sRet (eMt "str" joinD (cD (.str ":")) (aCons (rd 4) aNil)))
    sNil)
    (sRet (eBin addD (eBin addD (eMt "str" joinD (cD (.str ":")) (aCons (eSl (rd 4) oNone (fun ρ => bind ((rd 2) ρ) asI)) aNil)) (cD (.str "::"))) (eMt "str" joinD (cD (.str ":")) (aCons (eSl (rd 4) (fun ρ => bind ((eBin addD (rd 2) (rd 3)) ρ) asI) oNone) aNil))))))))
instance : FeS c_groups_text := by unfold c_groups_text; infer_instance
def d_groups_text : List D → M D := mkF 1 6 c_groups_text
instance {ds : List D} : Fe (d_groups_text ds) := by unfold d_groups_text; infer_instance
def tm___str___12 : Fns := [("Address4", d_Address4___str__)]
instance : FeT tm___str___12 := by unfold tm___str___12; infer_instance
def c_Address6___str__ : Sm :=
    (sRet (fun ρ => bind ((fun ρ => bind ((aCons (fun ρ => bind ((rd 0) ρ) (atrD ta_number_0 "number")) aNil) ρ) d_groups_text) ρ) (fmtD tm___str___12)))
instance : FeS c_Address6___str__ := by unfold c_Address6___str__; infer_instance
def d_Address6___str__ : List D → M D := mkF 1 1 c_Address6___str__
instance {ds : List D} : Fe (d_Address6___str__ ds) := by unfold d_Address6___str__; infer_instance
def tm___str___14 : Fns := [("Address4", d_Address4___str__), ("Address6", d_Address6___str__)]
instance : FeT tm___str___14 := by unfold tm___str___14; infer_instance
def c_law : Sm :=
    (sSeq (sFor (fun ρ => bind ((aCons (fun ρ => bind ((aCons (cD (.int 1)) (aCons (fun ρ => bind ((aCons (cD (.int 8)) (aCons (fun ρ => bind ((aCons (rd 0) aNil) ρ) lenD) aNil)) ρ) minD) aNil)) ρ) maxD) aNil) ρ) rng1D) (gN 1)
    (sWip [9, 1, 4, 10, 3, 8, 7, 2, 5, 6] (sSeq (sSet (gN 2) (fun ρ => bind ((aCons (rd 0) (aCons (rd 1) aNil)) ρ) d__law_source))
    (sSeq (sPar 3 4 (aCons (fun ρ => bind ((aCons (rd 2) (aCons (cD (.int 128)) aNil)) ρ) d__law_number) (aCons (eBin ixD (fun ρ => bind ((aCons (fun ρ => bind ((aCons (rd 2) (aCons (cD (.int 40)) aNil)) ρ) d__law_draw) (aCons (fun ρ => bind ((cD (.int 1)) ρ) negD) (aCons (cD .non) (aCons (cD (.str "8")) (aCons (cD (.bl true)) aNil))))) ρ) lstM) (fun ρ => bind ((aCons (rd 2) (aCons (cD (.int 5)) aNil)) ρ) d__law_draw)) aNil)))
    (sSeq (sSet (gN 5) (eBin ixD (fun ρ => bind ((aCons (fun ρ => bind ((aCons (fun ρ => bind ((aCons (rd 2) (aCons (cD (.int 32)) aNil)) ρ) d__law_number) aNil) ρ) (clsF "Address4" i_Address4___init__)) (aCons (fun ρ => bind ((aCons (rd 3) aNil) ρ) (clsF "Address6" i_Address6___init__)) aNil)) ρ) lstM) (fun ρ => bind ((aCons (rd 2) (aCons (cD (.int 2)) aNil)) ρ) d__law_draw)))
    (sSeq (sSet (gN 6) (eBin ixD (fun ρ => bind ((aCons (cD (.str "parts")) (aCons (cD (.str "digits")) (aCons (cD (.str "")) (aCons (cD (.str "length")) aNil)))) ρ) lstM) (fun ρ => bind ((aCons (rd 2) (aCons (cD (.int 4)) aNil)) ρ) d__law_draw)))
    (sSeq (sSet (gN 7) (fun ρ => bind ((aCons (fun _ => ret (.xn "BadKind" [] [])) (aCons (fun ρ => bind ((rd 3) ρ) fun d => ret (.xn "BadNumber" ["value"] [d])) (aCons (fun ρ => bind ((rd 6) ρ) fun d => ret (.xn "BadText" ["why"] [d])) (aCons (fun ρ => bind ((rd 3) ρ) fun d => ret (.xn "BadBytes" ["length"] [d])) (aCons (fun ρ => bind ((rd 4) ρ) fun d => ret (.xn "BadPrefix" ["length"] [d])) (aCons (fun ρ => bind ((rd 5) ρ) fun d => ret (.xn "HostBits" ["told"] [d])) aNil)))))) ρ) lstM))
    (sSeq (sSet (gN 7) (eBin addD (rd 7) (fun ρ => bind ((aCons (fun _ => ret (.xn "Mixed" [] [])) (aCons (fun _ => ret (.xn "NotWithin" [] [])) (aCons (fun _ => ret (.xn "BadRange" [] [])) (aCons (fun _ => ret (.xn "BadWord" [] [])) (aCons (fun _ => ret (.xn "NotThere" [] [])) (aCons (fun _ => ret (.xn "NoMatch" [] [])) aNil)))))) ρ) lstM)))
    (sSeq (sFor (fun ρ => bind ((aCons (rd 7) aNil) ρ) enumD) (gT (gsCons (gN 8) (gsCons (gN 9) gsNil)))
    (sWip [9, 10, 8] (sSeq (sSet (gN 10) (fun ρ => bind ((aCons (rd 9) aNil) ρ) d__law_marks))
    (sSeq (sIf (bOr (fun ρ => bind (eBin (eqB true) (eMt "list" lcountD (rd 10) (aCons (cD (.bl true)) aNil)) (cD (.int 1)) ρ) asB) (fun ρ => bind (eBin (ownNe tm___eq___8 csA (eqB true)) (eMt "list" lindexB (rd 10) (aCons (cD (.bl true)) aNil)) (rd 8) ρ) asB)) (sRet (cD (.bl false)))
    sNil)
    (sIf (bOr (bNot (fun ρ => bind ((fun ρ => bind ((aCons (rd 9) (aCons (cD (.cls "NetError")) aNil)) ρ) (isiX xsA (isiD csA))) ρ) truD)) (bNot (fun ρ => bind ((fun ρ => bind ((aCons (rd 9) (aCons (cD (.ty "ValueError")) aNil)) ρ) (isiX xsA (isiD csA))) ρ) truD))) (sRet (cD (.bl false)))
    sNil)))))
    (sSeq (sIf (fun ρ => bind (eBin (eqB true) (fun ρ => bind ((aCons (fun ρ => bind ((eBin ixD (rd 7) (cD (.int 1))) ρ) (xfD [("BadNumber" : Str)] "value")) (aCons (fun ρ => bind ((eBin ixD (rd 7) (cD (.int 2))) ρ) (xfD [("BadText" : Str)] "why")) (aCons (fun ρ => bind ((eBin ixD (rd 7) (cD (.int 3))) ρ) (xfD [("BadBytes" : Str), ("BadPrefix" : Str)] "length")) (aCons (fun ρ => bind ((aCons (fun ρ => bind ((eBin ixD (rd 7) (cD (.int 4))) ρ) (xfD [("BadBytes" : Str), ("BadPrefix" : Str)] "length")) aNil) ρ) reprD) aNil)))) ρ) tupM) (fun ρ => bind ((aCons (rd 3) (aCons (rd 6) (aCons (rd 3) (aCons (fun ρ => bind ((aCons (rd 4) aNil) ρ) reprD) aNil)))) ρ) tupM) ρ) asB) (sRet (cD (.bl false)))
    sNil)
    (sIf (bOr (fun ρ => bind (eBin (ownNe tm___eq___8 csA (eqB true)) (fun ρ => bind ((eBin ixD (rd 7) (cD (.int 5))) ρ) (xfD [("HostBits" : Str)] "told")) (rd 5) ρ) asB) (fun ρ => bind (eBin (eqB true) (fun ρ => bind ((aCons (fun ρ => bind ((eBin ixD (rd 7) (cD (.int 5))) ρ) (xfD [("HostBits" : Str)] "told")) aNil) ρ) (strD tm___str___14)) (fun ρ => bind ((aCons (rd 5) aNil) ρ) (strD tm___str___14)) ρ) asB)) (sRet (cD (.bl false)))
    sNil)))))))))))
    (sRet (cD (.bl true))))
def d_law : List D → M D := mkF 1 11 c_law
def LawPure : Prop := ∀ (ns : List Int), ns.length ≤ 63 → d_law [.scr (ns.map .int)] [] (fun d _ => d = .bl true) (fun _ _ => False)
end Dn

set_option Elab.async false
set_option linter.all false
set_option maxRecDepth 100000
set_option maxHeartbeats 4000000
set_option pp.deepTerms false
set_option pp.deepTerms.threshold 5
set_option pp.maxSteps 1500
namespace Dn
open PySem PySem.W PySem.Spec PyProof.Rows L2 TL Bits An
theorem u__law_source {S : Sv} {Q : D → Sv → Prop} {E : Xn → Sv → Prop} {a0 a1 : D} : Rn Q E (kt (d__law_source [a0, a1]) S) = Rs (EndsD.mk (fun _ S' => Q .non S') Q (fun _ _ => False) (fun _ _ => False) (fun x _ S' => E x S')) (ks ((sSeq (sSet (gN 2) (eBin addD (eBin ixD (eBin addD (rd 0) (fun ρ => bind ((aCons (cD (.int 0)) aNil) ρ) lstM)) (cD (.int 0))) (eBin mulD (cD (.int 7919)) (rd 1))))
    (sSeq (sIf (fun ρ => bind (eBin ltD (rd 1) (fun ρ => bind ((aCons (rd 0) aNil) ρ) lenD) ρ) asB) (sSet (gN 2) (eBin ixD (rd 0) (rd 1)))
    sNil)
    (sRet (fun ρ => bind ((aCons (rd 2) (aCons (rd 2) (aCons (cD (.int 0)) aNil))) ρ) srcM))))) [.sh a0, .sh a1, .un] S) := propext ⟨id, id⟩
theorem u__law_mix {S : Sv} {Q : D → Sv → Prop} {E : Xn → Sv → Prop} {a0 a1 : D} : Rn Q E (kt (d__law_mix [a0, a1]) S) = Rs (EndsD.mk (fun _ S' => Q .non S') Q (fun _ _ => False) (fun _ _ => False) (fun x _ S' => E x S')) (ks ((sSeq (sSet (gN 2) (eBin addD (eBin addD (eBin addD (eBin modD (fun ρ => bind ((aCons (rd 0) aNil) ρ) intD) (cD (.int 2147483629))) (eBin mulD (cD (.int 30011)) (rd 1))) (eBin modD (fun ρ => bind ((aCons (eBin fdivD (rd 0) (cD (.int 2147483629))) aNil) ρ) intD) (cD (.int 1000003)))) (cD (.int 1))))
    (sSeq (sSet (gN 2) (eBin modD (fun ρ => bind ((aCons (eBin mulD (rd 2) (cD (.int 48271))) aNil) ρ) intD) (cD (.int 2147483629))))
    (sSeq (sSet (gN 2) (eBin modD (fun ρ => bind ((aCons (eBin mulD (rd 2) (eBin addD (eBin addD (eBin fdivD (rd 2) (cD (.int 1021))) (cD (.int 65539))) (rd 1))) aNil) ρ) intD) (cD (.int 2147483587))))
    (sRet (eBin modD (fun ρ => bind ((aCons (eBin mulD (rd 2) (eBin addD (eBin fdivD (rd 2) (cD (.int 2011))) (cD (.int 40014)))) aNil) ρ) intD) (cD (.int 2147483563)))))))) [.sh a0, .sh a1, .un] S) := propext ⟨id, id⟩
theorem u__law_draw {S : Sv} {Q : D → Sv → Prop} {E : Xn → Sv → Prop} {a0 a1 : D} : Rn Q E (kt (d__law_draw [a0, a1]) S) = Rs (EndsD.mk (fun _ S' => Q .non S') Q (fun _ _ => False) (fun _ _ => False) (fun x _ S' => E x S')) (ks ((sSeq (sIf (fun ρ => bind (eBin geD (eBin ixD (rd 0) (cD (.int 0))) (eBin powD (cD (.int 10)) (cD (.int 18))) ρ) asB) (sSeq (sSet (gN 2) (eBin modD (fun ρ => bind ((aCons (eBin ixD (rd 0) (cD (.int 0))) aNil) ρ) intD) (rd 1)))
    (sSeq (sSrc (rd 0) (cD (.int 0)) (eBin fdivD (eBin ixD (rd 0) (cD (.int 0))) (rd 1)))
    (sRet (rd 2))))
    sNil)
    (sSeq (sSrc (rd 0) (cD (.int 2)) (eBin addD (eBin ixD (rd 0) (cD (.int 2))) (cD (.int 1))))
    (sRet (eBin modD (fun ρ => bind ((aCons (fun ρ => bind ((aCons (eBin ixD (rd 0) (cD (.int 1))) (aCons (eBin ixD (rd 0) (cD (.int 2))) aNil)) ρ) d__law_mix) aNil) ρ) intD) (rd 1)))))) [.sh a0, .sh a1, .un] S) := propext ⟨id, id⟩
theorem u__law_number {S : Sv} {Q : D → Sv → Prop} {E : Xn → Sv → Prop} {a0 a1 : D} : Rn Q E (kt (d__law_number [a0, a1]) S) = Rs (EndsD.mk (fun _ S' => Q .non S') Q (fun _ _ => False) (fun _ _ => False) (fun x _ S' => E x S')) (ks ((sSeq (sSet (gN 2) (eBin subD (eBin shlD (cD (.int 1)) (rd 1)) (cD (.int 1))))
    (sSeq (sSet (gN 3) (fun ρ => bind ((aCons (rd 0) (aCons (cD (.int 4)) aNil)) ρ) d__law_draw))
    (sSeq (sIf (fun ρ => bind (eBin (eqB false) (rd 3) (cD (.int 0)) ρ) asB) (sRet (eBin ixD (fun ρ => bind ((aCons (cD (.int 0)) (aCons (cD (.int 1)) (aCons (rd 2) (aCons (eBin subD (rd 2) (cD (.int 1))) aNil)))) ρ) lstM) (fun ρ => bind ((aCons (rd 0) (aCons (cD (.int 4)) aNil)) ρ) d__law_draw)))
    sNil)
    (sSeq (sIf (fun ρ => bind (eBin (eqB false) (rd 3) (cD (.int 1)) ρ) asB) (sRet (fun ρ => bind ((aCons (rd 2) (aCons (eBin subD (eBin addD (eBin shlD (cD (.int 1)) (fun ρ => bind ((aCons (rd 0) (aCons (eBin addD (rd 1) (cD (.int 1))) aNil)) ρ) d__law_draw)) (fun ρ => bind ((aCons (rd 0) (aCons (cD (.int 3)) aNil)) ρ) d__law_draw)) (cD (.int 1))) aNil)) ρ) minD))
    sNil)
    (sSeq (sSet (gN 4) (eBin ixD (fun ρ => bind ((aCons (cD (.int 8)) (aCons (cD (.int 16)) aNil)) ρ) lstM) (fun ρ => bind ((aCons (eBin (eqB false) (rd 1) (cD (.int 128))) aNil) ρ) intD)))
    (sSeq (sSet (gN 5) (cD (.int 0)))
    (sSeq (sFor (fun ρ => bind ((aCons (eBin fdivD (rd 1) (rd 4)) aNil) ρ) rng1D) (gN 6)
    (sWip [6, 7] (sSeq (sSet (gN 7) (fun ρ => bind ((aCons (cD (.int 0)) (aCons (cD (.int 0)) (aCons (cD (.int 0)) (aCons (cD (.int 1)) (aCons (eBin subD (eBin shlD (cD (.int 1)) (rd 4)) (cD (.int 1))) (aCons (fun ρ => bind ((aCons (rd 0) (aCons (eBin shlD (cD (.int 1)) (rd 4)) aNil)) ρ) d__law_draw) aNil)))))) ρ) lstM))
    (sSet (gN 5) (eBin addD (eBin mulD (rd 5) (eBin shlD (cD (.int 1)) (rd 4))) (eBin ixD (rd 7) (fun ρ => bind ((aCons (rd 0) (aCons (cD (.int 6)) aNil)) ρ) d__law_draw)))))))
    (sRet (rd 5)))))))))) [.sh a0, .sh a1, .un, .un, .un, .un, .un, .un] S) := propext ⟨id, id⟩
theorem u_is_integer {S : Sv} {Q : D → Sv → Prop} {E : Xn → Sv → Prop} {a0 : D} : Rn Q E (kt (d_is_integer [a0]) S) = Rs (EndsD.mk (fun _ S' => Q .non S') Q (fun _ _ => False) (fun _ _ => False) (fun x _ S' => E x S')) (ks ((sRet (eAnd truD (fun ρ => bind ((aCons (rd 0) (aCons (cD (.ty "int")) aNil)) ρ) (isiD csA)) (eNot truD (fun ρ => bind ((aCons (rd 0) (aCons (cD (.ty "bool")) aNil)) ρ) (isiD csA)))))) [.sh a0] S) := propext ⟨id, id⟩
theorem u_is_from {S : Sv} {Q : D → Sv → Prop} {E : Xn → Sv → Prop} {a0 a1 a2 : D} : Rn Q E (kt (d_is_from [a0, a1, a2]) S) = Rs (EndsD.mk (fun _ S' => Q .non S') Q (fun _ _ => False) (fun _ _ => False) (fun x _ S' => E x S')) (ks ((sRet (eAnd truD (fun ρ => bind ((aCons (rd 0) aNil) ρ) d_is_integer) (eChain leD leD (rd 1) (rd 0) (rd 2))))) [.sh a0, .sh a1, .sh a2] S) := propext ⟨id, id⟩
theorem u_part_fault {S : Sv} {Q : D → Sv → Prop} {E : Xn → Sv → Prop} {a0 : D} : Rn Q E (kt (d_part_fault [a0]) S) = Rs (EndsD.mk (fun _ S' => Q .non S') Q (fun _ _ => False) (fun _ _ => False) (fun x _ S' => E x S')) (ks ((sSeq (sIf (fun ρ => bind (eBin (eqB false) (rd 0) (cD (.str "")) ρ) asB) (sRet (cD (.str "empty")))
    sNil)
    (sSeq (sIf (bNot (fun ρ => bind ((fun ρ => bind ((aCons (eLc (fun ρ => bind ((rd 0) ρ) itD) [1] (gN 1) bYes (eBin (inD false) (rd 1) (cD (.str "0123456789")))) aNil) ρ) allD) ρ) truD)) (sRet (cD (.str "digits")))
    sNil)
    (sSeq (sIf (fun ρ => bind (eBin gtD (fun ρ => bind ((aCons (rd 0) aNil) ρ) lenD) (cD (.int 3)) ρ) asB) (sRet (cD (.str "long")))
    sNil)
    (sSeq (sIf (bAnd (fun ρ => bind (eBin (eqB false) (eBin ixD (rd 0) (cD (.int 0))) (cD (.str "0")) ρ) asB) (fun ρ => bind (eBin (eqB true) (rd 0) (cD (.str "0")) ρ) asB)) (sRet (cD (.str "zero")))
    sNil)
    (sRet (eIf (fun ρ => bind (eBin gtD (fun ρ => bind ((aCons (rd 0) aNil) ρ) intD) (cD (.int 255)) ρ) asB) (cD (.str "large")) (cD .non)))))))) [.sh a0, .un] S) := propext ⟨id, id⟩
theorem u_quad_fault {S : Sv} {Q : D → Sv → Prop} {E : Xn → Sv → Prop} {a0 : D} : Rn Q E (kt (d_quad_fault [a0]) S) = Rs (EndsD.mk (fun _ S' => Q .non S') Q (fun _ _ => False) (fun _ _ => False) (fun x _ S' => E x S')) (ks ((sSeq (sSet (gN 1) (eMt "str" splitD (rd 0) (aCons (cD (.str ".")) aNil)))
    (sSeq (sIf (fun ρ => bind (eBin (eqB true) (fun ρ => bind ((aCons (rd 1) aNil) ρ) lenD) (cD (.int 4)) ρ) asB) (sRet (cD (.str "parts")))
    sNil)
    (sSeq (sFor (fun ρ => bind ((rd 1) ρ) itD) (gN 2)
    (sWip [2] (sIfW 3 (isD true) (fun ρ => bind ((aCons (rd 2) aNil) ρ) d_part_fault) (cD .non) (sRet (rd 3)) sNil)))
    (sRet (cD .non)))))) [.sh a0, .un, .un, .un] S) := propext ⟨id, id⟩
theorem u_read_quad {S : Sv} {Q : D → Sv → Prop} {E : Xn → Sv → Prop} {a0 : D} : Rn Q E (kt (d_read_quad [a0]) S) = Rs (EndsD.mk (fun _ S' => Q .non S') Q (fun _ _ => False) (fun _ _ => False) (fun x _ S' => E x S')) (ks ((sSeq (sSet (gN 1) (fun ρ => bind ((aCons (rd 0) aNil) ρ) d_quad_fault))
    (sSeq (sIf (fun ρ => bind (eBin (isD true) (rd 1) (cD .non) ρ) asB) (sRaise fun ρ => bind ((rd 1) ρ) fun d => ret ⟨"BadText", ["why"], [d]⟩)
    sNil)
    (sSeq (sSet (gN 2) (cD (.int 0)))
    (sSeq (sFor (fun ρ => bind ((eMt "str" splitD (rd 0) (aCons (cD (.str ".")) aNil)) ρ) itD) (gN 3)
    (sWip [3] (sSet (gN 2) (eBin addD (eBin mulD (rd 2) (cD (.int 256))) (fun ρ => bind ((aCons (rd 3) aNil) ρ) intD)))))
    (sRet (rd 2))))))) [.sh a0, .un, .un, .un] S) := propext ⟨id, id⟩
theorem u_quad_place {S : Sv} {Q : D → Sv → Prop} {E : Xn → Sv → Prop} {a0 : D} : Rn Q E (kt (d_quad_place [a0]) S) = Rs (EndsD.mk (fun _ S' => Q .non S') Q (fun _ _ => False) (fun _ _ => False) (fun x _ S' => E x S')) (ks ((sRet (eBin addD (eMt "str" rfindD (rd 0) (aCons (cD (.str ":")) aNil)) (cD (.int 1))))) [.sh a0] S) := propext ⟨id, id⟩
theorem u_has_wrong_quad {S : Sv} {Q : D → Sv → Prop} {E : Xn → Sv → Prop} {a0 : D} : Rn Q E (kt (d_has_wrong_quad [a0]) S) = Rs (EndsD.mk (fun _ S' => Q .non S') Q (fun _ _ => False) (fun _ _ => False) (fun x _ S' => E x S')) (ks ((sSeq (sSet (gN 1) (fun ρ => bind ((aCons (rd 0) aNil) ρ) d_quad_place))
    (sRet (eAnd truD (eBin (inD false) (cD (.str ".")) (rd 0)) (eOr truD (eBin (inD false) (cD (.str ".")) (eSl (rd 0) oNone (fun ρ => bind ((rd 1) ρ) asI))) (eBin (isD true) (fun ρ => bind ((aCons (eSl (rd 0) (fun ρ => bind ((rd 1) ρ) asI) oNone) aNil) ρ) d_quad_fault) (cD .non))))))) [.sh a0, .un] S) := propext ⟨id, id⟩
theorem u_has_wrong_gaps {S : Sv} {Q : D → Sv → Prop} {E : Xn → Sv → Prop} {a0 : D} : Rn Q E (kt (d_has_wrong_gaps [a0]) S) = Rs (EndsD.mk (fun _ S' => Q .non S') Q (fun _ _ => False) (fun _ _ => False) (fun x _ S' => E x S')) (ks ((sRet (eOr truD (eBin (inD false) (cD (.str ":::")) (rd 0)) (eBin gtD (eMt "str" countD (rd 0) (aCons (cD (.str "::")) aNil)) (cD (.int 1)))))) [.sh a0] S) := propext ⟨id, id⟩
theorem u_has_wrong_ends {S : Sv} {Q : D → Sv → Prop} {E : Xn → Sv → Prop} {a0 : D} : Rn Q E (kt (d_has_wrong_ends [a0]) S) = Rs (EndsD.mk (fun _ S' => Q .non S') Q (fun _ _ => False) (fun _ _ => False) (fun x _ S' => E x S')) (ks ((sSeq (sIf (bAnd (fun ρ => bind ((eMt "str" startswithD (rd 0) (aCons (cD (.str ":")) aNil)) ρ) truD) (bNot (fun ρ => bind ((eMt "str" startswithD (rd 0) (aCons (cD (.str "::")) aNil)) ρ) truD))) (sRet (cD (.bl true)))
    sNil)
    (sRet (eAnd truD (eMt "str" endswithD (rd 0) (aCons (cD (.str ":")) aNil)) (eNot truD (eMt "str" endswithD (rd 0) (aCons (cD (.str "::")) aNil))))))) [.sh a0] S) := propext ⟨id, id⟩
theorem u_hex_groups {S : Sv} {Q : D → Sv → Prop} {E : Xn → Sv → Prop} {a0 : D} : Rn Q E (kt (d_hex_groups [a0]) S) = Rs (EndsD.mk (fun _ S' => Q .non S') Q (fun _ _ => False) (fun _ _ => False) (fun x _ S' => E x S')) (ks ((sRet (eIf (fun ρ => bind (eBin (eqB false) (rd 0) (cD (.str "")) ρ) asB) (fun ρ => bind (aNil ρ) lstM) (eMt "str" splitD (rd 0) (aCons (cD (.str ":")) aNil))))) [.sh a0] S) := propext ⟨id, id⟩
theorem u_parts_of {S : Sv} {Q : D → Sv → Prop} {E : Xn → Sv → Prop} {a0 : D} : Rn Q E (kt (d_parts_of [a0]) S) = Rs (EndsD.mk (fun _ S' => Q .non S') Q (fun _ _ => False) (fun _ _ => False) (fun x _ S' => E x S')) (ks ((sSeq (sSet (gN 1) (fun ρ => bind ((aCons (rd 0) aNil) ρ) d_quad_place))
    (sSeq (sSet (gN 2) (eIf (fun ρ => bind (eBin (inD false) (cD (.str ".")) (rd 0) ρ) asB) (eSl (rd 0) (fun ρ => bind ((rd 1) ρ) asI) oNone) (cD (.str ""))))
    (sSeq (sSet (gN 3) (eIf (fun ρ => bind (eBin (eqB true) (rd 2) (cD (.str "")) ρ) asB) (eSl (rd 0) oNone (fun ρ => bind ((rd 1) ρ) asI)) (rd 0)))
    (sSeq (sIf (fun ρ => bind (eBin (inD false) (cD (.str "::")) (rd 3) ρ) asB) (sSeq (sSet (gT (gsCons (gN 4) (gsCons (gN 5) (gsCons (gN 6) gsNil)))) (eMt "str" partD (rd 3) (aCons (cD (.str "::")) aNil)))
    (sRet (fun ρ => bind ((aCons (fun ρ => bind ((aCons (rd 4) aNil) ρ) d_hex_groups) (aCons (fun ρ => bind ((aCons (eMt "str" rstripD (rd 6) (aCons (cD (.str ":")) aNil)) aNil) ρ) d_hex_groups) (aCons (rd 2) aNil))) ρ) tupM)))
    sNil)
    (sRet (fun ρ => bind ((aCons (fun ρ => bind ((aCons (eMt "str" rstripD (rd 3) (aCons (cD (.str ":")) aNil)) aNil) ρ) d_hex_groups) (aCons (cD .non) (aCons (rd 2) aNil))) ρ) tupM))))))) [.sh a0, .un, .un, .un, .un, .un, .un] S) := propext ⟨id, id⟩
theorem u_has_wrong_count {S : Sv} {Q : D → Sv → Prop} {E : Xn → Sv → Prop} {a0 a1 a2 : D} : Rn Q E (kt (d_has_wrong_count [a0, a1, a2]) S) = Rs (EndsD.mk (fun _ S' => Q .non S') Q (fun _ _ => False) (fun _ _ => False) (fun x _ S' => E x S')) (ks ((sSeq (sSet (gN 3) (eBin addD (eBin addD (fun ρ => bind ((aCons (rd 0) aNil) ρ) lenD) (fun ρ => bind ((aCons (eOrN (rd 1)) aNil) ρ) lenD)) (eBin mulD (cD (.int 2)) (fun ρ => bind ((aCons (eBin (eqB true) (rd 2) (cD (.str ""))) aNil) ρ) intD))))
    (sRet (eIf (fun ρ => bind (eBin (isD false) (rd 1) (cD .non) ρ) asB) (eBin (eqB true) (rd 3) (cD (.int 8))) (eBin gtD (rd 3) (cD (.int 7))))))) [.sh a0, .sh a1, .sh a2, .un] S) := propext ⟨id, id⟩
theorem u_groups_fault {S : Sv} {Q : D → Sv → Prop} {E : Xn → Sv → Prop} {a0 : D} : Rn Q E (kt (d_groups_fault [a0]) S) = Rs (EndsD.mk (fun _ S' => Q .non S') Q (fun _ _ => False) (fun _ _ => False) (fun x _ S' => E x S')) (ks ((sSeq (sIf (bNot (fun ρ => bind ((fun ρ => bind ((aCons (eLc (fun ρ => bind ((rd 0) ρ) itD) [4] (gN 4) bYes (eOr truD (eBin (inD false) (eMt "str" lowerD (rd 4) aNil) (cD (.str "0123456789abcdef"))) (eBin (inD false) (rd 4) (cD (.str ":."))))) aNil) ρ) allD) ρ) truD)) (sRet (cD (.str "digits")))
    sNil)
    (sSeq (sIf (fun ρ => bind ((fun ρ => bind ((aCons (rd 0) aNil) ρ) d_has_wrong_quad) ρ) truD) (sRet (cD (.str "quad")))
    sNil)
    (sSeq (sIf (fun ρ => bind ((fun ρ => bind ((aCons (rd 0) aNil) ρ) d_has_wrong_gaps) ρ) truD) (sRet (cD (.str "gaps")))
    sNil)
    (sSeq (sIf (fun ρ => bind ((fun ρ => bind ((aCons (rd 0) aNil) ρ) d_has_wrong_ends) ρ) truD) (sRet (cD (.str "ends")))
    sNil)
    (sSeq (sSet (gT (gsCons (gN 1) (gsCons (gN 2) (gsCons (gN 3) gsNil)))) (fun ρ => bind ((aCons (rd 0) aNil) ρ) d_parts_of))
    (sSeq (sIf (bNot (fun ρ => bind ((fun ρ => bind ((aCons (eLc (fun ρ => bind ((eBin addD (rd 1) (eOrN (rd 2))) ρ) itD) [5] (gN 5) bYes (eBin ltD (fun ρ => bind ((aCons (rd 5) aNil) ρ) lenD) (cD (.int 5)))) aNil) ρ) allD) ρ) truD)) (sRet (cD (.str "long")))
    sNil)
    (sRet (eIf (fun ρ => bind ((fun ρ => bind ((aCons (rd 1) (aCons (rd 2) (aCons (rd 3) aNil))) ρ) d_has_wrong_count) ρ) truD) (cD (.str "groups")) (cD .non)))))))))) [.sh a0, .un, .un, .un, .un, .un] S) := propext ⟨id, id⟩
theorem u_hex_number {S : Sv} {Q : D → Sv → Prop} {E : Xn → Sv → Prop} {a0 : D} : Rn Q E (kt (d_hex_number [a0]) S) = Rs (EndsD.mk (fun _ S' => Q .non S') Q (fun _ _ => False) (fun _ _ => False) (fun x _ S' => E x S')) (ks ((sSeq (sSet (gN 1) (cD (.int 0)))
    (sSeq (sFor (fun ρ => bind ((eMt "str" lowerD (rd 0) aNil) ρ) itD) (gN 2)
    (sWip [2] (sSet (gN 1) (eBin addD (eBin mulD (rd 1) (cD (.int 16))) (eMt "str" indexD (cD (.str "0123456789abcdef")) (aCons (rd 2) aNil))))))
    (sRet (rd 1))))) [.sh a0, .un, .un] S) := propext ⟨id, id⟩
theorem u_read_groups {S : Sv} {Q : D → Sv → Prop} {E : Xn → Sv → Prop} {a0 : D} : Rn Q E (kt (d_read_groups [a0]) S) = Rs (EndsD.mk (fun _ S' => Q .non S') Q (fun _ _ => False) (fun _ _ => False) (fun x _ S' => E x S')) (ks ((sSeq (sSet (gN 1) (fun ρ => bind ((aCons (rd 0) aNil) ρ) d_groups_fault))
    (sSeq (sIf (fun ρ => bind (eBin (isD true) (rd 1) (cD .non) ρ) asB) (sRaise fun ρ => bind ((rd 1) ρ) fun d => ret ⟨"BadText", ["why"], [d]⟩)
    sNil)
    (sSeq (sSet (gT (gsCons (gN 2) (gsCons (gN 3) (gsCons (gN 4) gsNil)))) (fun ρ => bind ((aCons (rd 0) aNil) ρ) d_parts_of))
    (sSeq (sSet (gN 5) (eLc (fun ρ => bind ((eOrN (rd 3)) ρ) itD) [10] (gN 10) bYes (fun ρ => bind ((aCons (rd 10) aNil) ρ) d_hex_number)))
    (sSeq (sSet (gN 6) (eLc (fun ρ => bind ((rd 2) ρ) itD) [10] (gN 10) bYes (fun ρ => bind ((aCons (rd 10) aNil) ρ) d_hex_number)))
    (sSeq (sIf (fun ρ => bind (eBin (eqB true) (rd 4) (cD (.str "")) ρ) asB) (sSeq (sSet (gN 7) (fun ρ => bind ((aCons (rd 4) aNil) ρ) d_read_quad))
    (sSeq (sSet (gN 8) (fun ρ => bind ((aCons (eBin shrD (rd 7) (cD (.int 16))) (aCons (eBin andD (rd 7) (cD (.int 65535))) aNil)) ρ) lstM))
    (sSet (gT (gsCons (gN 6) (gsCons (gN 5) gsNil))) (eIf (fun ρ => bind (eBin (isD true) (rd 3) (cD .non) ρ) asB) (fun ρ => bind ((aCons (rd 6) (aCons (eBin addD (rd 5) (rd 8)) aNil)) ρ) tupM) (fun ρ => bind ((aCons (eBin addD (rd 6) (rd 8)) (aCons (rd 5) aNil)) ρ) tupM)))))
    sNil)
    (sSeq (sSet (gN 9) (cD (.int 0)))
    (sSeq (sFor (fun ρ => bind ((eBin addD (eBin addD (rd 6) (eBin mulD (fun ρ => bind ((aCons (cD (.int 0)) aNil) ρ) lstM) (eBin subD (eBin subD (cD (.int 8)) (fun ρ => bind ((aCons (rd 6) aNil) ρ) lenD)) (fun ρ => bind ((aCons (rd 5) aNil) ρ) lenD)))) (rd 5)) ρ) itD) (gN 10)
    (sSet (gN 9) (eBin addD (eBin mulD (rd 9) (cD (.int 65536))) (rd 10))))
    (sRet (rd 9))))))))))) [.sh a0, .un, .un, .un, .un, .un, .un, .un, .un, .un, .un] S) := propext ⟨id, id⟩
theorem u_number_of {S : Sv} {Q : D → Sv → Prop} {E : Xn → Sv → Prop} {a0 a1 : D} : Rn Q E (kt (d_number_of [a0, a1]) S) = Rs (EndsD.mk (fun _ S' => Q .non S') Q (fun _ _ => False) (fun _ _ => False) (fun x _ S' => E x S')) (ks ((sSeq (sIf (fun ρ => bind ((fun ρ => bind ((aCons (rd 0) aNil) ρ) d_is_integer) ρ) truD) (sSeq (sIf (bNot (fun ρ => bind ((fun ρ => bind ((aCons (rd 0) (aCons (cD (.int 0)) (aCons (eBin subD (eBin shlD (cD (.int 1)) (rd 1)) (cD (.int 1))) aNil))) ρ) d_is_from) ρ) truD)) (sRaise fun ρ => bind ((rd 0) ρ) fun d => ret ⟨"BadNumber", ["value"], [d]⟩)
    sNil)
    (sRet (rd 0)))
    sNil)
    (sSeq (sIf (fun ρ => bind ((fun ρ => bind ((aCons (rd 0) (aCons (cD (.ty "str")) aNil)) ρ) (isiD csA)) ρ) truD) (sRet (eIf (fun ρ => bind (eBin (eqB false) (rd 1) (cD (.int 32)) ρ) asB) (fun ρ => bind ((aCons (rd 0) aNil) ρ) d_read_quad) (fun ρ => bind ((aCons (rd 0) aNil) ρ) d_read_groups)))
    sNil)
    (sSeq (sIf (bNot (fun ρ => bind ((fun ρ => bind ((aCons (rd 0) (aCons (cD (.ty "bytes")) aNil)) ρ) (isiD csA)) ρ) truD)) (sRaise fun _ => ret ⟨"BadKind", [], []⟩)
    sNil)
    (sSeq (sIf (fun ρ => bind (eBin (eqB true) (fun ρ => bind ((aCons (rd 0) aNil) ρ) lenD) (eBin fdivD (rd 1) (cD (.int 8))) ρ) asB) (sRaise fun ρ => bind ((fun ρ => bind ((aCons (rd 0) aNil) ρ) lenD) ρ) fun d => ret ⟨"BadBytes", ["length"], [d]⟩)
    sNil)
    (sRet (fun ρ => bind ((aCons (rd 0) (aCons (cD (.str "big")) aNil)) ρ) fromBD))))))) [.sh a0, .sh a1] S) := propext ⟨id, id⟩
theorem u_Address4___init__ {S : Sv} {Q : D → Sv → Prop} {E : Xn → Sv → Prop} {a0 : D} : Rn Q E (kt (clsF "Address4" i_Address4___init__ [a0]) S) = Rs (EndsD.mk (fun ρ S' => iniC "Address4" Q ρ S') (fun _ _ => False) (fun _ _ => False) (fun _ _ => False) (fun x _ S' => E x S')) (ks ((sFldI 0 "Address4" "number" (eIf (fun ρ => bind ((fun ρ => bind ((aCons (rd 1) (aCons (cD (.cls "Address4")) aNil)) ρ) (isiD csA)) ρ) truD) (fun ρ => bind ((rd 1) ρ) (atrD ta_number_0 "number")) (fun ρ => bind ((aCons (rd 1) (aCons (cD (.int 32)) aNil)) ρ) d_number_of)))) [.oi "Address4" [] [], .sh a0] S) := q0_cls_ini (c := "Address4") (n := 1) (N := 1) (code := c_Address4___init__) (ds := [a0]) (Q := Q) (E := E) (S := S) rfl
theorem u_Address6___init__ {S : Sv} {Q : D → Sv → Prop} {E : Xn → Sv → Prop} {a0 : D} : Rn Q E (kt (clsF "Address6" i_Address6___init__ [a0]) S) = Rs (EndsD.mk (fun ρ S' => iniC "Address6" Q ρ S') (fun _ _ => False) (fun _ _ => False) (fun _ _ => False) (fun x _ S' => E x S')) (ks ((sFldI 0 "Address6" "number" (eIf (fun ρ => bind ((fun ρ => bind ((aCons (rd 1) (aCons (cD (.cls "Address6")) aNil)) ρ) (isiD csA)) ρ) truD) (fun ρ => bind ((rd 1) ρ) (atrD ta_number_0 "number")) (fun ρ => bind ((aCons (rd 1) (aCons (cD (.int 128)) aNil)) ρ) d_number_of)))) [.oi "Address6" [] [], .sh a0] S) := q0_cls_ini (c := "Address6") (n := 1) (N := 1) (code := c_Address6___init__) (ds := [a0]) (Q := Q) (E := E) (S := S) rfl
theorem u__law_marks {S : Sv} {Q : D → Sv → Prop} {E : Xn → Sv → Prop} {a0 : D} : Rn Q E (kt (d__law_marks [a0]) S) = Rs (EndsD.mk (fun _ S' => Q .non S') Q (fun _ _ => False) (fun _ _ => False) (fun x _ S' => E x S')) (ks ((sSeq (sSet (gN 1) (fun ρ => bind ((aCons (fun ρ => bind ((aCons (rd 0) (aCons (cD (.cls "BadKind")) aNil)) ρ) (isiX xsA (isiD csA))) (aCons (fun ρ => bind ((aCons (rd 0) (aCons (cD (.cls "BadNumber")) aNil)) ρ) (isiX xsA (isiD csA))) (aCons (fun ρ => bind ((aCons (rd 0) (aCons (cD (.cls "BadText")) aNil)) ρ) (isiX xsA (isiD csA))) (aCons (fun ρ => bind ((aCons (rd 0) (aCons (cD (.cls "BadBytes")) aNil)) ρ) (isiX xsA (isiD csA))) aNil)))) ρ) lstM))
    (sSeq (sSet (gN 1) (eBin addD (rd 1) (fun ρ => bind ((aCons (fun ρ => bind ((aCons (rd 0) (aCons (cD (.cls "BadPrefix")) aNil)) ρ) (isiX xsA (isiD csA))) (aCons (fun ρ => bind ((aCons (rd 0) (aCons (cD (.cls "HostBits")) aNil)) ρ) (isiX xsA (isiD csA))) (aCons (fun ρ => bind ((aCons (rd 0) (aCons (cD (.cls "Mixed")) aNil)) ρ) (isiX xsA (isiD csA))) (aCons (fun ρ => bind ((aCons (rd 0) (aCons (cD (.cls "NotWithin")) aNil)) ρ) (isiX xsA (isiD csA))) aNil)))) ρ) lstM)))
    (sSeq (sSet (gN 1) (eBin addD (rd 1) (fun ρ => bind ((aCons (fun ρ => bind ((aCons (rd 0) (aCons (cD (.cls "BadRange")) aNil)) ρ) (isiX xsA (isiD csA))) (aCons (fun ρ => bind ((aCons (rd 0) (aCons (cD (.cls "BadWord")) aNil)) ρ) (isiX xsA (isiD csA))) (aCons (fun ρ => bind ((aCons (rd 0) (aCons (cD (.cls "NotThere")) aNil)) ρ) (isiX xsA (isiD csA))) (aCons (fun ρ => bind ((aCons (rd 0) (aCons (cD (.cls "NoMatch")) aNil)) ρ) (isiX xsA (isiD csA))) aNil)))) ρ) lstM)))
    (sRet (rd 1)))))) [.sh a0, .un] S) := propext ⟨id, id⟩
theorem u_Address4___eq__ {S : Sv} {Q : D → Sv → Prop} {E : Xn → Sv → Prop} {a0 a1 : D} : Rn Q E (kt (d_Address4___eq__ [a0, a1]) S) = Rs (EndsD.mk (fun _ S' => Q .non S') Q (fun _ _ => False) (fun _ _ => False) (fun x _ S' => E x S')) (ks ((sSeq (sIf (bNot (fun ρ => bind ((fun ρ => bind ((aCons (rd 1) (aCons (cD (.cls "Address4")) aNil)) ρ) (isiD csA)) ρ) truD)) (sRet (cD (.bl false)))
    sNil)
    (sRet (eBin (eqB false) (fun ρ => bind ((rd 0) ρ) (atrD ta_number_0 "number")) (fun ρ => bind ((rd 1) ρ) (atrD ta_number_0 "number")))))) [.sh a0, .sh a1] S) := propext ⟨id, id⟩
theorem u_Address6___eq__ {S : Sv} {Q : D → Sv → Prop} {E : Xn → Sv → Prop} {a0 a1 : D} : Rn Q E (kt (d_Address6___eq__ [a0, a1]) S) = Rs (EndsD.mk (fun _ S' => Q .non S') Q (fun _ _ => False) (fun _ _ => False) (fun x _ S' => E x S')) (ks ((sSeq (sIf (bNot (fun ρ => bind ((fun ρ => bind ((aCons (rd 1) (aCons (cD (.cls "Address6")) aNil)) ρ) (isiD csA)) ρ) truD)) (sRet (cD (.bl false)))
    sNil)
    (sRet (eBin (eqB false) (fun ρ => bind ((rd 0) ρ) (atrD ta_number_0 "number")) (fun ρ => bind ((rd 1) ρ) (atrD ta_number_0 "number")))))) [.sh a0, .sh a1] S) := propext ⟨id, id⟩
theorem u_quad_parts {S : Sv} {Q : D → Sv → Prop} {E : Xn → Sv → Prop} {a0 : D} : Rn Q E (kt (d_quad_parts [a0]) S) = Rs (EndsD.mk (fun _ S' => Q .non S') Q (fun _ _ => False) (fun _ _ => False) (fun x _ S' => E x S')) (ks ((sRet (eLc (fun ρ => bind ((fun ρ => bind ((aCons (cD (.int 24)) (aCons (cD (.int 16)) (aCons (cD (.int 8)) (aCons (cD (.int 0)) aNil)))) ρ) tupM) ρ) itD) [1] (gN 1) bYes (fun ρ => bind ((eBin andD (eBin shrD (rd 0) (rd 1)) (cD (.int 255))) ρ) (fmtD tm___str___10))))) [.sh a0, .un] S) := propext ⟨id, id⟩
theorem u_quad_text {S : Sv} {Q : D → Sv → Prop} {E : Xn → Sv → Prop} {a0 : D} : Rn Q E (kt (d_quad_text [a0]) S) = Rs (EndsD.mk (fun _ S' => Q .non S') Q (fun _ _ => False) (fun _ _ => False) (fun x _ S' => E x S')) (ks ((sRet (eMt "str" joinD (cD (.str ".")) (aCons (fun ρ => bind ((aCons (rd 0) aNil) ρ) d_quad_parts) aNil)))) [.sh a0] S) := propext ⟨id, id⟩
theorem u_Address4___str__ {S : Sv} {Q : D → Sv → Prop} {E : Xn → Sv → Prop} {a0 : D} : Rn Q E (kt (d_Address4___str__ [a0]) S) = Rs (EndsD.mk (fun _ S' => Q .non S') Q (fun _ _ => False) (fun _ _ => False) (fun x _ S' => E x S')) (ks ((sRet (fun ρ => bind ((fun ρ => bind ((aCons (fun ρ => bind ((rd 0) ρ) (atrD ta_number_0 "number")) aNil) ρ) d_quad_text) ρ) (fmtD tm___str___10)))) [.sh a0] S) := propext ⟨id, id⟩
theorem u_group_numbers {S : Sv} {Q : D → Sv → Prop} {E : Xn → Sv → Prop} {a0 : D} : Rn Q E (kt (d_group_numbers [a0]) S) = Rs (EndsD.mk (fun _ S' => Q .non S') Q (fun _ _ => False) (fun _ _ => False) (fun x _ S' => E x S')) (ks ((sRet (eLc (fun ρ => bind ((aCons (cD (.int 8)) aNil) ρ) rng1D) [1] (gN 1) bYes (eBin andD (eBin shrD (rd 0) (eBin subD (cD (.int 112)) (eBin mulD (cD (.int 16)) (rd 1)))) (cD (.int 65535)))))) [.sh a0, .un] S) := propext ⟨id, id⟩
theorem u_longest_run {S : Sv} {Q : D → Sv → Prop} {E : Xn → Sv → Prop} {a0 : D} : Rn Q E (kt (d_longest_run [a0]) S) = Rs (EndsD.mk (fun _ S' => Q .non S') Q (fun _ _ => False) (fun _ _ => False) (fun x _ S' => E x S')) (ks ((sSeq (sSet (gT (gsCons (gN 1) (gsCons (gN 2) gsNil))) (fun ρ => bind ((aCons (cD (.int 0)) (aCons (cD (.int 0)) aNil)) ρ) tupM))
    (sSeq (sSet (gN 3) (cD (.int 0)))
    (sSeq (sFor (fun ρ => bind ((aCons (rd 0) aNil) ρ) enumD) (gT (gsCons (gN 4) (gsCons (gN 5) gsNil)))
    (sWip [5, 4] (sIf (fun ρ => bind (eBin (eqB true) (rd 5) (cD (.int 0)) ρ) asB) (sSet (gN 3) (eBin addD (rd 4) (cD (.int 1))))
    (sIf (fun ρ => bind (eBin gtD (eBin subD (eBin addD (rd 4) (cD (.int 1))) (rd 3)) (rd 2) ρ) asB) (sPar 1 2 (aCons (rd 3) (aCons (eBin subD (eBin addD (rd 4) (cD (.int 1))) (rd 3)) aNil)))
    sNil))))
    (sRet (fun ρ => bind ((aCons (rd 1) (aCons (rd 2) aNil)) ρ) tupM)))))) [.sh a0, .un, .un, .un, .un, .un] S) := propext ⟨id, id⟩
theorem u_groups_text {S : Sv} {Q : D → Sv → Prop} {E : Xn → Sv → Prop} {a0 : D} : Rn Q E (kt (d_groups_text [a0]) S) = Rs (EndsD.mk (fun _ S' => Q .non S') Q (fun _ _ => False) (fun _ _ => False) (fun x _ S' => E x S')) (ks ((sSeq (sSet (gN 1) (fun ρ => bind ((aCons (rd 0) aNil) ρ) d_group_numbers))
    (sSeq (sSet (gT (gsCons (gN 2) (gsCons (gN 3) gsNil))) (fun ρ => bind ((aCons (rd 1) aNil) ρ) d_longest_run))
    (sSeq (sSet (gN 4) (eLc (fun ρ => bind ((rd 1) ρ) itD) [5] (gN 5) bYes (fun ρ => bind ((rd 5) ρ) (hexD hexS))))
    (sSeq (sIf (fun ρ => bind (eBin ltD (rd 3) (cD (.int 2)) ρ) asB) (sRet (eMt "str" joinD (cD (.str ":")) (aCons (rd 4) aNil)))
    sNil)
    (sRet (eBin addD (eBin addD (eMt "str" joinD (cD (.str ":")) (aCons (eSl (rd 4) oNone (fun ρ => bind ((rd 2) ρ) asI)) aNil)) (cD (.str "::"))) (eMt "str" joinD (cD (.str ":")) (aCons (eSl (rd 4) (fun ρ => bind ((eBin addD (rd 2) (rd 3)) ρ) asI) oNone) aNil))))))))) [.sh a0, .un, .un, .un, .un, .un] S) := propext ⟨id, id⟩
theorem u_Address6___str__ {S : Sv} {Q : D → Sv → Prop} {E : Xn → Sv → Prop} {a0 : D} : Rn Q E (kt (d_Address6___str__ [a0]) S) = Rs (EndsD.mk (fun _ S' => Q .non S') Q (fun _ _ => False) (fun _ _ => False) (fun x _ S' => E x S')) (ks ((sRet (fun ρ => bind ((fun ρ => bind ((aCons (fun ρ => bind ((rd 0) ρ) (atrD ta_number_0 "number")) aNil) ρ) d_groups_text) ρ) (fmtD tm___str___12)))) [.sh a0] S) := propext ⟨id, id⟩
theorem u_law {S : Sv} {Q : D → Sv → Prop} {E : Xn → Sv → Prop} {a0 : D} : Rn Q E (kt (d_law [a0]) S) = Rs (EndsD.mk (fun _ S' => Q .non S') Q (fun _ _ => False) (fun _ _ => False) (fun x _ S' => E x S')) (ks ((sSeq (sFor (fun ρ => bind ((aCons (fun ρ => bind ((aCons (cD (.int 1)) (aCons (fun ρ => bind ((aCons (cD (.int 8)) (aCons (fun ρ => bind ((aCons (rd 0) aNil) ρ) lenD) aNil)) ρ) minD) aNil)) ρ) maxD) aNil) ρ) rng1D) (gN 1)
    (sWip [9, 1, 4, 10, 3, 8, 7, 2, 5, 6] (sSeq (sSet (gN 2) (fun ρ => bind ((aCons (rd 0) (aCons (rd 1) aNil)) ρ) d__law_source))
    (sSeq (sPar 3 4 (aCons (fun ρ => bind ((aCons (rd 2) (aCons (cD (.int 128)) aNil)) ρ) d__law_number) (aCons (eBin ixD (fun ρ => bind ((aCons (fun ρ => bind ((aCons (rd 2) (aCons (cD (.int 40)) aNil)) ρ) d__law_draw) (aCons (fun ρ => bind ((cD (.int 1)) ρ) negD) (aCons (cD .non) (aCons (cD (.str "8")) (aCons (cD (.bl true)) aNil))))) ρ) lstM) (fun ρ => bind ((aCons (rd 2) (aCons (cD (.int 5)) aNil)) ρ) d__law_draw)) aNil)))
    (sSeq (sSet (gN 5) (eBin ixD (fun ρ => bind ((aCons (fun ρ => bind ((aCons (fun ρ => bind ((aCons (rd 2) (aCons (cD (.int 32)) aNil)) ρ) d__law_number) aNil) ρ) (clsF "Address4" i_Address4___init__)) (aCons (fun ρ => bind ((aCons (rd 3) aNil) ρ) (clsF "Address6" i_Address6___init__)) aNil)) ρ) lstM) (fun ρ => bind ((aCons (rd 2) (aCons (cD (.int 2)) aNil)) ρ) d__law_draw)))
    (sSeq (sSet (gN 6) (eBin ixD (fun ρ => bind ((aCons (cD (.str "parts")) (aCons (cD (.str "digits")) (aCons (cD (.str "")) (aCons (cD (.str "length")) aNil)))) ρ) lstM) (fun ρ => bind ((aCons (rd 2) (aCons (cD (.int 4)) aNil)) ρ) d__law_draw)))
    (sSeq (sSet (gN 7) (fun ρ => bind ((aCons (fun _ => ret (.xn "BadKind" [] [])) (aCons (fun ρ => bind ((rd 3) ρ) fun d => ret (.xn "BadNumber" ["value"] [d])) (aCons (fun ρ => bind ((rd 6) ρ) fun d => ret (.xn "BadText" ["why"] [d])) (aCons (fun ρ => bind ((rd 3) ρ) fun d => ret (.xn "BadBytes" ["length"] [d])) (aCons (fun ρ => bind ((rd 4) ρ) fun d => ret (.xn "BadPrefix" ["length"] [d])) (aCons (fun ρ => bind ((rd 5) ρ) fun d => ret (.xn "HostBits" ["told"] [d])) aNil)))))) ρ) lstM))
    (sSeq (sSet (gN 7) (eBin addD (rd 7) (fun ρ => bind ((aCons (fun _ => ret (.xn "Mixed" [] [])) (aCons (fun _ => ret (.xn "NotWithin" [] [])) (aCons (fun _ => ret (.xn "BadRange" [] [])) (aCons (fun _ => ret (.xn "BadWord" [] [])) (aCons (fun _ => ret (.xn "NotThere" [] [])) (aCons (fun _ => ret (.xn "NoMatch" [] [])) aNil)))))) ρ) lstM)))
    (sSeq (sFor (fun ρ => bind ((aCons (rd 7) aNil) ρ) enumD) (gT (gsCons (gN 8) (gsCons (gN 9) gsNil)))
    (sWip [9, 10, 8] (sSeq (sSet (gN 10) (fun ρ => bind ((aCons (rd 9) aNil) ρ) d__law_marks))
    (sSeq (sIf (bOr (fun ρ => bind (eBin (eqB true) (eMt "list" lcountD (rd 10) (aCons (cD (.bl true)) aNil)) (cD (.int 1)) ρ) asB) (fun ρ => bind (eBin (ownNe tm___eq___8 csA (eqB true)) (eMt "list" lindexB (rd 10) (aCons (cD (.bl true)) aNil)) (rd 8) ρ) asB)) (sRet (cD (.bl false)))
    sNil)
    (sIf (bOr (bNot (fun ρ => bind ((fun ρ => bind ((aCons (rd 9) (aCons (cD (.cls "NetError")) aNil)) ρ) (isiX xsA (isiD csA))) ρ) truD)) (bNot (fun ρ => bind ((fun ρ => bind ((aCons (rd 9) (aCons (cD (.ty "ValueError")) aNil)) ρ) (isiX xsA (isiD csA))) ρ) truD))) (sRet (cD (.bl false)))
    sNil)))))
    (sSeq (sIf (fun ρ => bind (eBin (eqB true) (fun ρ => bind ((aCons (fun ρ => bind ((eBin ixD (rd 7) (cD (.int 1))) ρ) (xfD [("BadNumber" : Str)] "value")) (aCons (fun ρ => bind ((eBin ixD (rd 7) (cD (.int 2))) ρ) (xfD [("BadText" : Str)] "why")) (aCons (fun ρ => bind ((eBin ixD (rd 7) (cD (.int 3))) ρ) (xfD [("BadBytes" : Str), ("BadPrefix" : Str)] "length")) (aCons (fun ρ => bind ((aCons (fun ρ => bind ((eBin ixD (rd 7) (cD (.int 4))) ρ) (xfD [("BadBytes" : Str), ("BadPrefix" : Str)] "length")) aNil) ρ) reprD) aNil)))) ρ) tupM) (fun ρ => bind ((aCons (rd 3) (aCons (rd 6) (aCons (rd 3) (aCons (fun ρ => bind ((aCons (rd 4) aNil) ρ) reprD) aNil)))) ρ) tupM) ρ) asB) (sRet (cD (.bl false)))
    sNil)
    (sIf (bOr (fun ρ => bind (eBin (ownNe tm___eq___8 csA (eqB true)) (fun ρ => bind ((eBin ixD (rd 7) (cD (.int 5))) ρ) (xfD [("HostBits" : Str)] "told")) (rd 5) ρ) asB) (fun ρ => bind (eBin (eqB true) (fun ρ => bind ((aCons (fun ρ => bind ((eBin ixD (rd 7) (cD (.int 5))) ρ) (xfD [("HostBits" : Str)] "told")) aNil) ρ) (strD tm___str___14)) (fun ρ => bind ((aCons (rd 5) aNil) ρ) (strD tm___str___14)) ρ) asB)) (sRet (cD (.bl false)))
    sNil)))))))))))
    (sRet (cD (.bl true))))) [.sh a0, .un, .un, .un, .un, .un, .un, .un, .un, .un, .un] S) := propext ⟨id, id⟩
theorem t_ta_number_0_Address {S : Sv} {Q : D → Sv → Prop} {E : Xn → Sv → Prop} {v n : Int} : Rn Q E (kt (atrD ta_number_0 "number" (Ad v n)) S) = Q (.int n) S := (show atrD ta_number_0 "number" (Ad v n) S Q E = Q (.int n) S from by
  by_cases h4 : v = 4
  · subst h4; exact g_fld rfl rfl
  · simp only [Ad_ne h4, Nt_ne h4, If_ne h4, wv_ne h4, dis_ne h4]; exact g_fld rfl rfl)
theorem t_own_tm___eq___8_Address {S : Sv} {Q : D → Sv → Prop} {E : Xn → Sv → Prop} {v n : Int} {base : D → D → M D} {b : D} (h : (tyOfD csA b).isSome = true) : Rn Q E (kt (ownOp tm___eq___8 csA base (Ad v n) b) S) = Rn Q E (kt (dis v d_Address4___eq__ d_Address6___eq__ [(Ad v n), b]) S) := (show ownOp tm___eq___8 csA base (Ad v n) b S Q E = (dis v d_Address4___eq__ d_Address6___eq__) [(Ad v n), b] S Q E from by
  by_cases h4 : v = 4
  · subst h4; exact g_op rfl rfl rfl h
  · simp only [Ad_ne h4, Nt_ne h4, If_ne h4, wv_ne h4, dis_ne h4]; exact g_op rfl rfl rfl h)
theorem t_ne_tm___eq___8_Address {S : Sv} {Q : D → Sv → Prop} {E : Xn → Sv → Prop} {v n : Int} {base : D → D → M D} {b : D} (h : (tyOfD csA b).isSome = true) : Rn Q E (kt (ownNe tm___eq___8 csA base (Ad v n) b) S) = Rn (fun y S1 => Rn Q E (kt (notB y) S1)) E (kt (dis v d_Address4___eq__ d_Address6___eq__ [(Ad v n), b]) S) := (show ownNe tm___eq___8 csA base (Ad v n) b S Q E = (dis v d_Address4___eq__ d_Address6___eq__) [(Ad v n), b] S (fun y S1 => notB y S1 Q E) E from by
  by_cases h4 : v = 4
  · subst h4; exact g_ne rfl rfl rfl h
  · simp only [Ad_ne h4, Nt_ne h4, If_ne h4, wv_ne h4, dis_ne h4]; exact g_ne rfl rfl rfl h)
theorem t_str_tm___str___12_Address4 {S : Sv} {Q : D → Sv → Prop} {E : Xn → Sv → Prop} {n : Int} : Rn Q E (kt (strD tm___str___12 [(Ad 4 n)]) S) = Rn (fun y S1 => Rn Q (fun _ _ => False) (kt (asStr y) S1)) (fun _ _ => False) (kt (d_Address4___str__ [(Ad 4 n)]) S) := (show strD tm___str___12 [(Ad 4 n)] S Q E = d_Address4___str__ [(Ad 4 n)] S (fun y S1 => asStr y S1 Q (fun _ _ => False)) (fun _ _ => False) from g_str rfl)
theorem t_fmt_tm___str___12_Address4 {S : Sv} {Q : D → Sv → Prop} {E : Xn → Sv → Prop} {n : Int} : Rn Q E (kt (fmtD tm___str___12 (Ad 4 n)) S) = Rn (fun y S1 => Rn Q (fun _ _ => False) (kt (asStr y) S1)) (fun _ _ => False) (kt (d_Address4___str__ [(Ad 4 n)]) S) := (show fmtD tm___str___12 (Ad 4 n) S Q E = d_Address4___str__ [(Ad 4 n)] S (fun y S1 => asStr y S1 Q (fun _ _ => False)) (fun _ _ => False) from g_fmt rfl)
theorem t_str_tm___str___14_Address {S : Sv} {Q : D → Sv → Prop} {E : Xn → Sv → Prop} {v n : Int} : Rn Q E (kt (strD tm___str___14 [(Ad v n)]) S) = Rn (fun y S1 => Rn Q (fun _ _ => False) (kt (asStr y) S1)) (fun _ _ => False) (kt (dis v d_Address4___str__ d_Address6___str__ [(Ad v n)]) S) := (show strD tm___str___14 [(Ad v n)] S Q E = (dis v d_Address4___str__ d_Address6___str__) [(Ad v n)] S (fun y S1 => asStr y S1 Q (fun _ _ => False)) (fun _ _ => False) from by
  by_cases h4 : v = 4
  · subst h4; exact g_str rfl
  · simp only [Ad_ne h4, Nt_ne h4, If_ne h4, wv_ne h4, dis_ne h4]; exact g_str rfl)
theorem t_fmt_tm___str___14_Address {S : Sv} {Q : D → Sv → Prop} {E : Xn → Sv → Prop} {v n : Int} : Rn Q E (kt (fmtD tm___str___14 (Ad v n)) S) = Rn (fun y S1 => Rn Q (fun _ _ => False) (kt (asStr y) S1)) (fun _ _ => False) (kt (dis v d_Address4___str__ d_Address6___str__ [(Ad v n)]) S) := (show fmtD tm___str___14 (Ad v n) S Q E = (dis v d_Address4___str__ d_Address6___str__) [(Ad v n)] S (fun y S1 => asStr y S1 Q (fun _ _ => False)) (fun _ _ => False) from by
  by_cases h4 : v = 4
  · subst h4; exact g_fmt rfl
  · simp only [Ad_ne h4, Nt_ne h4, If_ne h4, wv_ne h4, dis_ne h4]; exact g_fmt rfl)
theorem ty_p0 {i : Int} : (ptyN (.int i)).isSome = true := rfl
theorem ty_0 {i : Int} : (tyOfD csA (.int i)).isSome = true := rfl
theorem ty_p1 {i : Str} : (ptyN (.str i)).isSome = true := rfl
theorem ty_1 {i : Str} : (tyOfD csA (.str i)).isSome = true := rfl
theorem ty_p2 {i : Bool} : (ptyN (.bl i)).isSome = true := rfl
theorem ty_2 {i : Bool} : (tyOfD csA (.bl i)).isSome = true := rfl
theorem ty_p3  : (ptyN .non).isSome = true := rfl
theorem ty_3  : (tyOfD csA .non).isSome = true := rfl
theorem ty_p4 {i : Array UInt8} : (ptyN (.byt i)).isSome = true := rfl
theorem ty_4 {i : Array UInt8} : (tyOfD csA (.byt i)).isSome = true := rfl
theorem ty_5 {i : List D} : (tyOfD csA (.lst i)).isSome = true := rfl
theorem ty_6 {i : List D} : (tyOfD csA (.tup i)).isSome = true := rfl
theorem ty_7 {i j : List D} : (tyOfD csA (.dct i j)).isSome = true := rfl
theorem ty_Address {v n : Int} : (tyOfD csA (Ad v n)).isSome = true := by
  by_cases h4 : v = 4
  · subst h4; exact rfl
  · simp only [Ad_ne h4, Nt_ne h4, If_ne h4, wv_ne h4, dis_ne h4]; exact rfl
theorem t_isi_0 {S : Sv} {Q : D → Sv → Prop} {E : Xn → Sv → Prop} {i : Int} : Rn Q E (kt (isiD csA [(.int i), .cls "Address4"]) S) = Q (.bl false) S := (show isiD csA [(.int i), .cls "Address4"] S Q E = Q (.bl false) S from g_isi rfl)
theorem t_isi_1 {S : Sv} {Q : D → Sv → Prop} {E : Xn → Sv → Prop} {i : Str} : Rn Q E (kt (isiD csA [(.str i), .cls "Address4"]) S) = Q (.bl false) S := (show isiD csA [(.str i), .cls "Address4"] S Q E = Q (.bl false) S from g_isi rfl)
theorem t_isi_2 {S : Sv} {Q : D → Sv → Prop} {E : Xn → Sv → Prop} {i : Bool} : Rn Q E (kt (isiD csA [(.bl i), .cls "Address4"]) S) = Q (.bl false) S := (show isiD csA [(.bl i), .cls "Address4"] S Q E = Q (.bl false) S from g_isi rfl)
theorem t_isi_3 {S : Sv} {Q : D → Sv → Prop} {E : Xn → Sv → Prop} : Rn Q E (kt (isiD csA [.non, .cls "Address4"]) S) = Q (.bl false) S := (show isiD csA [.non, .cls "Address4"] S Q E = Q (.bl false) S from g_isi rfl)
theorem t_isi_4 {S : Sv} {Q : D → Sv → Prop} {E : Xn → Sv → Prop} {i : Array UInt8} : Rn Q E (kt (isiD csA [(.byt i), .cls "Address4"]) S) = Q (.bl false) S := (show isiD csA [(.byt i), .cls "Address4"] S Q E = Q (.bl false) S from g_isi rfl)
theorem t_isi_5 {S : Sv} {Q : D → Sv → Prop} {E : Xn → Sv → Prop} {i : List D} : Rn Q E (kt (isiD csA [(.lst i), .cls "Address4"]) S) = Q (.bl false) S := (show isiD csA [(.lst i), .cls "Address4"] S Q E = Q (.bl false) S from g_isi rfl)
theorem t_isi_6 {S : Sv} {Q : D → Sv → Prop} {E : Xn → Sv → Prop} {i : List D} : Rn Q E (kt (isiD csA [(.tup i), .cls "Address4"]) S) = Q (.bl false) S := (show isiD csA [(.tup i), .cls "Address4"] S Q E = Q (.bl false) S from g_isi rfl)
theorem t_isi_7 {S : Sv} {Q : D → Sv → Prop} {E : Xn → Sv → Prop} {i j : List D} : Rn Q E (kt (isiD csA [(.dct i j), .cls "Address4"]) S) = Q (.bl false) S := (show isiD csA [(.dct i j), .cls "Address4"] S Q E = Q (.bl false) S from g_isi rfl)
theorem t_isi_8 {S : Sv} {Q : D → Sv → Prop} {E : Xn → Sv → Prop} {v n : Int} : Rn Q E (kt (isiD csA [(Ad v n), .cls "Address4"]) S) = Q (.bl (decide (v = 4))) S := (show isiD csA [(Ad v n), .cls "Address4"] S Q E = Q (.bl (decide (v = 4))) S from by
  by_cases h4 : v = 4
  · subst h4; exact g_isi rfl
  · simp only [Ad_ne h4, decide_eq_false h4]; exact g_isi rfl)
theorem t_isi_9 {S : Sv} {Q : D → Sv → Prop} {E : Xn → Sv → Prop} {i : Int} : Rn Q E (kt (isiD csA [(.int i), .cls "Address6"]) S) = Q (.bl false) S := (show isiD csA [(.int i), .cls "Address6"] S Q E = Q (.bl false) S from g_isi rfl)
theorem t_isi_10 {S : Sv} {Q : D → Sv → Prop} {E : Xn → Sv → Prop} {i : Str} : Rn Q E (kt (isiD csA [(.str i), .cls "Address6"]) S) = Q (.bl false) S := (show isiD csA [(.str i), .cls "Address6"] S Q E = Q (.bl false) S from g_isi rfl)
theorem t_isi_11 {S : Sv} {Q : D → Sv → Prop} {E : Xn → Sv → Prop} {i : Bool} : Rn Q E (kt (isiD csA [(.bl i), .cls "Address6"]) S) = Q (.bl false) S := (show isiD csA [(.bl i), .cls "Address6"] S Q E = Q (.bl false) S from g_isi rfl)
theorem t_isi_12 {S : Sv} {Q : D → Sv → Prop} {E : Xn → Sv → Prop} : Rn Q E (kt (isiD csA [.non, .cls "Address6"]) S) = Q (.bl false) S := (show isiD csA [.non, .cls "Address6"] S Q E = Q (.bl false) S from g_isi rfl)
theorem t_isi_13 {S : Sv} {Q : D → Sv → Prop} {E : Xn → Sv → Prop} {i : Array UInt8} : Rn Q E (kt (isiD csA [(.byt i), .cls "Address6"]) S) = Q (.bl false) S := (show isiD csA [(.byt i), .cls "Address6"] S Q E = Q (.bl false) S from g_isi rfl)
theorem t_isi_14 {S : Sv} {Q : D → Sv → Prop} {E : Xn → Sv → Prop} {i : List D} : Rn Q E (kt (isiD csA [(.lst i), .cls "Address6"]) S) = Q (.bl false) S := (show isiD csA [(.lst i), .cls "Address6"] S Q E = Q (.bl false) S from g_isi rfl)
theorem t_isi_15 {S : Sv} {Q : D → Sv → Prop} {E : Xn → Sv → Prop} {i : List D} : Rn Q E (kt (isiD csA [(.tup i), .cls "Address6"]) S) = Q (.bl false) S := (show isiD csA [(.tup i), .cls "Address6"] S Q E = Q (.bl false) S from g_isi rfl)
theorem t_isi_16 {S : Sv} {Q : D → Sv → Prop} {E : Xn → Sv → Prop} {i j : List D} : Rn Q E (kt (isiD csA [(.dct i j), .cls "Address6"]) S) = Q (.bl false) S := (show isiD csA [(.dct i j), .cls "Address6"] S Q E = Q (.bl false) S from g_isi rfl)
theorem t_isi_17 {S : Sv} {Q : D → Sv → Prop} {E : Xn → Sv → Prop} {v n : Int} : Rn Q E (kt (isiD csA [(Ad v n), .cls "Address6"]) S) = Q (.bl (!decide (v = 4))) S := (show isiD csA [(Ad v n), .cls "Address6"] S Q E = Q (.bl (!decide (v = 4))) S from by
  by_cases h4 : v = 4
  · subst h4; exact g_isi rfl
  · simp only [Ad_ne h4, decide_eq_false h4]; exact g_isi rfl)
theorem t_isi_18 {S : Sv} {Q : D → Sv → Prop} {E : Xn → Sv → Prop} {i : Int} : Rn Q E (kt (isiD csA [(.int i), .ty "bool"]) S) = Q (.bl false) S := (show isiD csA [(.int i), .ty "bool"] S Q E = Q (.bl false) S from g_isi rfl)
theorem t_isi_19 {S : Sv} {Q : D → Sv → Prop} {E : Xn → Sv → Prop} {i : Str} : Rn Q E (kt (isiD csA [(.str i), .ty "bool"]) S) = Q (.bl false) S := (show isiD csA [(.str i), .ty "bool"] S Q E = Q (.bl false) S from g_isi rfl)
theorem t_isi_20 {S : Sv} {Q : D → Sv → Prop} {E : Xn → Sv → Prop} {i : Bool} : Rn Q E (kt (isiD csA [(.bl i), .ty "bool"]) S) = Q (.bl true) S := (show isiD csA [(.bl i), .ty "bool"] S Q E = Q (.bl true) S from g_isi rfl)
theorem t_isi_21 {S : Sv} {Q : D → Sv → Prop} {E : Xn → Sv → Prop} : Rn Q E (kt (isiD csA [.non, .ty "bool"]) S) = Q (.bl false) S := (show isiD csA [.non, .ty "bool"] S Q E = Q (.bl false) S from g_isi rfl)
theorem t_isi_22 {S : Sv} {Q : D → Sv → Prop} {E : Xn → Sv → Prop} {i : Array UInt8} : Rn Q E (kt (isiD csA [(.byt i), .ty "bool"]) S) = Q (.bl false) S := (show isiD csA [(.byt i), .ty "bool"] S Q E = Q (.bl false) S from g_isi rfl)
theorem t_isi_23 {S : Sv} {Q : D → Sv → Prop} {E : Xn → Sv → Prop} {i : List D} : Rn Q E (kt (isiD csA [(.lst i), .ty "bool"]) S) = Q (.bl false) S := (show isiD csA [(.lst i), .ty "bool"] S Q E = Q (.bl false) S from g_isi rfl)
theorem t_isi_24 {S : Sv} {Q : D → Sv → Prop} {E : Xn → Sv → Prop} {i : List D} : Rn Q E (kt (isiD csA [(.tup i), .ty "bool"]) S) = Q (.bl false) S := (show isiD csA [(.tup i), .ty "bool"] S Q E = Q (.bl false) S from g_isi rfl)
theorem t_isi_25 {S : Sv} {Q : D → Sv → Prop} {E : Xn → Sv → Prop} {i j : List D} : Rn Q E (kt (isiD csA [(.dct i j), .ty "bool"]) S) = Q (.bl false) S := (show isiD csA [(.dct i j), .ty "bool"] S Q E = Q (.bl false) S from g_isi rfl)
theorem t_isi_26 {S : Sv} {Q : D → Sv → Prop} {E : Xn → Sv → Prop} {v n : Int} : Rn Q E (kt (isiD csA [(Ad v n), .ty "bool"]) S) = Q (.bl false) S := (show isiD csA [(Ad v n), .ty "bool"] S Q E = Q (.bl false) S from by
  by_cases h4 : v = 4
  · subst h4; exact g_isi rfl
  · simp only [Ad_ne h4]; exact g_isi rfl)
theorem t_isi_27 {S : Sv} {Q : D → Sv → Prop} {E : Xn → Sv → Prop} {i : Int} : Rn Q E (kt (isiD csA [(.int i), .ty "bytes"]) S) = Q (.bl false) S := (show isiD csA [(.int i), .ty "bytes"] S Q E = Q (.bl false) S from g_isi rfl)
theorem t_isi_28 {S : Sv} {Q : D → Sv → Prop} {E : Xn → Sv → Prop} {i : Str} : Rn Q E (kt (isiD csA [(.str i), .ty "bytes"]) S) = Q (.bl false) S := (show isiD csA [(.str i), .ty "bytes"] S Q E = Q (.bl false) S from g_isi rfl)
theorem t_isi_29 {S : Sv} {Q : D → Sv → Prop} {E : Xn → Sv → Prop} {i : Bool} : Rn Q E (kt (isiD csA [(.bl i), .ty "bytes"]) S) = Q (.bl false) S := (show isiD csA [(.bl i), .ty "bytes"] S Q E = Q (.bl false) S from g_isi rfl)
theorem t_isi_30 {S : Sv} {Q : D → Sv → Prop} {E : Xn → Sv → Prop} : Rn Q E (kt (isiD csA [.non, .ty "bytes"]) S) = Q (.bl false) S := (show isiD csA [.non, .ty "bytes"] S Q E = Q (.bl false) S from g_isi rfl)
theorem t_isi_31 {S : Sv} {Q : D → Sv → Prop} {E : Xn → Sv → Prop} {i : Array UInt8} : Rn Q E (kt (isiD csA [(.byt i), .ty "bytes"]) S) = Q (.bl true) S := (show isiD csA [(.byt i), .ty "bytes"] S Q E = Q (.bl true) S from g_isi rfl)
theorem t_isi_32 {S : Sv} {Q : D → Sv → Prop} {E : Xn → Sv → Prop} {i : List D} : Rn Q E (kt (isiD csA [(.lst i), .ty "bytes"]) S) = Q (.bl false) S := (show isiD csA [(.lst i), .ty "bytes"] S Q E = Q (.bl false) S from g_isi rfl)
theorem t_isi_33 {S : Sv} {Q : D → Sv → Prop} {E : Xn → Sv → Prop} {i : List D} : Rn Q E (kt (isiD csA [(.tup i), .ty "bytes"]) S) = Q (.bl false) S := (show isiD csA [(.tup i), .ty "bytes"] S Q E = Q (.bl false) S from g_isi rfl)
theorem t_isi_34 {S : Sv} {Q : D → Sv → Prop} {E : Xn → Sv → Prop} {i j : List D} : Rn Q E (kt (isiD csA [(.dct i j), .ty "bytes"]) S) = Q (.bl false) S := (show isiD csA [(.dct i j), .ty "bytes"] S Q E = Q (.bl false) S from g_isi rfl)
theorem t_isi_35 {S : Sv} {Q : D → Sv → Prop} {E : Xn → Sv → Prop} {v n : Int} : Rn Q E (kt (isiD csA [(Ad v n), .ty "bytes"]) S) = Q (.bl false) S := (show isiD csA [(Ad v n), .ty "bytes"] S Q E = Q (.bl false) S from by
  by_cases h4 : v = 4
  · subst h4; exact g_isi rfl
  · simp only [Ad_ne h4]; exact g_isi rfl)
theorem t_isi_36 {S : Sv} {Q : D → Sv → Prop} {E : Xn → Sv → Prop} {i : Int} : Rn Q E (kt (isiD csA [(.int i), .ty "int"]) S) = Q (.bl true) S := (show isiD csA [(.int i), .ty "int"] S Q E = Q (.bl true) S from g_isi rfl)
theorem t_isi_37 {S : Sv} {Q : D → Sv → Prop} {E : Xn → Sv → Prop} {i : Str} : Rn Q E (kt (isiD csA [(.str i), .ty "int"]) S) = Q (.bl false) S := (show isiD csA [(.str i), .ty "int"] S Q E = Q (.bl false) S from g_isi rfl)
theorem t_isi_38 {S : Sv} {Q : D → Sv → Prop} {E : Xn → Sv → Prop} {i : Bool} : Rn Q E (kt (isiD csA [(.bl i), .ty "int"]) S) = Q (.bl true) S := (show isiD csA [(.bl i), .ty "int"] S Q E = Q (.bl true) S from g_isi rfl)
theorem t_isi_39 {S : Sv} {Q : D → Sv → Prop} {E : Xn → Sv → Prop} : Rn Q E (kt (isiD csA [.non, .ty "int"]) S) = Q (.bl false) S := (show isiD csA [.non, .ty "int"] S Q E = Q (.bl false) S from g_isi rfl)
theorem t_isi_40 {S : Sv} {Q : D → Sv → Prop} {E : Xn → Sv → Prop} {i : Array UInt8} : Rn Q E (kt (isiD csA [(.byt i), .ty "int"]) S) = Q (.bl false) S := (show isiD csA [(.byt i), .ty "int"] S Q E = Q (.bl false) S from g_isi rfl)
theorem t_isi_41 {S : Sv} {Q : D → Sv → Prop} {E : Xn → Sv → Prop} {i : List D} : Rn Q E (kt (isiD csA [(.lst i), .ty "int"]) S) = Q (.bl false) S := (show isiD csA [(.lst i), .ty "int"] S Q E = Q (.bl false) S from g_isi rfl)
theorem t_isi_42 {S : Sv} {Q : D → Sv → Prop} {E : Xn → Sv → Prop} {i : List D} : Rn Q E (kt (isiD csA [(.tup i), .ty "int"]) S) = Q (.bl false) S := (show isiD csA [(.tup i), .ty "int"] S Q E = Q (.bl false) S from g_isi rfl)
theorem t_isi_43 {S : Sv} {Q : D → Sv → Prop} {E : Xn → Sv → Prop} {i j : List D} : Rn Q E (kt (isiD csA [(.dct i j), .ty "int"]) S) = Q (.bl false) S := (show isiD csA [(.dct i j), .ty "int"] S Q E = Q (.bl false) S from g_isi rfl)
theorem t_isi_44 {S : Sv} {Q : D → Sv → Prop} {E : Xn → Sv → Prop} {v n : Int} : Rn Q E (kt (isiD csA [(Ad v n), .ty "int"]) S) = Q (.bl false) S := (show isiD csA [(Ad v n), .ty "int"] S Q E = Q (.bl false) S from by
  by_cases h4 : v = 4
  · subst h4; exact g_isi rfl
  · simp only [Ad_ne h4]; exact g_isi rfl)
theorem t_isi_45 {S : Sv} {Q : D → Sv → Prop} {E : Xn → Sv → Prop} {i : Int} : Rn Q E (kt (isiD csA [(.int i), .ty "str"]) S) = Q (.bl false) S := (show isiD csA [(.int i), .ty "str"] S Q E = Q (.bl false) S from g_isi rfl)
theorem t_isi_46 {S : Sv} {Q : D → Sv → Prop} {E : Xn → Sv → Prop} {i : Str} : Rn Q E (kt (isiD csA [(.str i), .ty "str"]) S) = Q (.bl true) S := (show isiD csA [(.str i), .ty "str"] S Q E = Q (.bl true) S from g_isi rfl)
theorem t_isi_47 {S : Sv} {Q : D → Sv → Prop} {E : Xn → Sv → Prop} {i : Bool} : Rn Q E (kt (isiD csA [(.bl i), .ty "str"]) S) = Q (.bl false) S := (show isiD csA [(.bl i), .ty "str"] S Q E = Q (.bl false) S from g_isi rfl)
theorem t_isi_48 {S : Sv} {Q : D → Sv → Prop} {E : Xn → Sv → Prop} : Rn Q E (kt (isiD csA [.non, .ty "str"]) S) = Q (.bl false) S := (show isiD csA [.non, .ty "str"] S Q E = Q (.bl false) S from g_isi rfl)
theorem t_isi_49 {S : Sv} {Q : D → Sv → Prop} {E : Xn → Sv → Prop} {i : Array UInt8} : Rn Q E (kt (isiD csA [(.byt i), .ty "str"]) S) = Q (.bl false) S := (show isiD csA [(.byt i), .ty "str"] S Q E = Q (.bl false) S from g_isi rfl)
theorem t_isi_50 {S : Sv} {Q : D → Sv → Prop} {E : Xn → Sv → Prop} {i : List D} : Rn Q E (kt (isiD csA [(.lst i), .ty "str"]) S) = Q (.bl false) S := (show isiD csA [(.lst i), .ty "str"] S Q E = Q (.bl false) S from g_isi rfl)
theorem t_isi_51 {S : Sv} {Q : D → Sv → Prop} {E : Xn → Sv → Prop} {i : List D} : Rn Q E (kt (isiD csA [(.tup i), .ty "str"]) S) = Q (.bl false) S := (show isiD csA [(.tup i), .ty "str"] S Q E = Q (.bl false) S from g_isi rfl)
theorem t_isi_52 {S : Sv} {Q : D → Sv → Prop} {E : Xn → Sv → Prop} {i j : List D} : Rn Q E (kt (isiD csA [(.dct i j), .ty "str"]) S) = Q (.bl false) S := (show isiD csA [(.dct i j), .ty "str"] S Q E = Q (.bl false) S from g_isi rfl)
theorem t_isi_53 {S : Sv} {Q : D → Sv → Prop} {E : Xn → Sv → Prop} {v n : Int} : Rn Q E (kt (isiD csA [(Ad v n), .ty "str"]) S) = Q (.bl false) S := (show isiD csA [(Ad v n), .ty "str"] S Q E = Q (.bl false) S from by
  by_cases h4 : v = 4
  · subst h4; exact g_isi rfl
  · simp only [Ad_ne h4]; exact g_isi rfl)

def Ss11 := And.intro (And.intro (And.intro (And.intro (And.intro @t_ta_number_0_Address (And.intro @t_own_tm___eq___8_Address @t_ne_tm___eq___8_Address)) (And.intro (And.intro @t_str_tm___str___12_Address4 @t_fmt_tm___str___12_Address4) (And.intro @t_str_tm___str___14_Address @t_fmt_tm___str___14_Address))) (And.intro (And.intro (And.intro @t_isi_0 @t_isi_1) (And.intro @t_isi_2 @t_isi_3)) (And.intro (And.intro @t_isi_4 @t_isi_5) (And.intro @t_isi_6 @t_isi_7)))) (And.intro (And.intro (And.intro @t_isi_8 (And.intro @t_isi_9 @t_isi_10)) (And.intro (And.intro @t_isi_11 @t_isi_12) (And.intro @t_isi_13 @t_isi_14))) (And.intro (And.intro (And.intro @t_isi_15 @t_isi_16) (And.intro @t_isi_17 @t_isi_18)) (And.intro (And.intro @t_isi_19 @t_isi_20) (And.intro @t_isi_21 @t_isi_22))))) (And.intro (And.intro (And.intro (And.intro @t_isi_23 (And.intro @t_isi_24 @t_isi_25)) (And.intro (And.intro @t_isi_26 @t_isi_27) (And.intro @t_isi_28 @t_isi_29))) (And.intro (And.intro (And.intro @t_isi_30 @t_isi_31) (And.intro @t_isi_32 @t_isi_33)) (And.intro (And.intro @t_isi_34 @t_isi_35) (And.intro @t_isi_36 @t_isi_37)))) (And.intro (And.intro (And.intro (And.intro @t_isi_38 @t_isi_39) (And.intro @t_isi_40 @t_isi_41)) (And.intro (And.intro @t_isi_42 @t_isi_43) (And.intro @t_isi_44 @t_isi_45))) (And.intro (And.intro (And.intro @t_isi_46 @t_isi_47) (And.intro @t_isi_48 @t_isi_49)) (And.intro (And.intro @t_isi_50 @t_isi_51) (And.intro @t_isi_52 @t_isi_53)))))
def Ss16 := And.intro (And.intro (And.intro @ty_p0 (And.intro @ty_0 @ty_p1)) (And.intro (And.intro @ty_1 @ty_p2) (And.intro @ty_2 @ty_p3))) (And.intro (And.intro @ty_3 (And.intro @ty_p4 @ty_4)) (And.intro (And.intro @ty_5 @ty_6) (And.intro @ty_7 @ty_Address)))
end Dn

set_option Elab.async false
set_option linter.all false
set_option maxRecDepth 100000
set_option maxHeartbeats 4000000
set_option pp.deepTerms false
set_option pp.deepTerms.threshold 5
set_option pp.maxSteps 1500

namespace Dn
open PySem PySem.W PySem.Spec PyProof.Rows L2 TL Bits An
theorem z_inDg {c : Nat} : inStr ⟨#[c]⟩ (Str.ofString "0123456789") = isDg c := rfl
theorem q_intDg {z : Str} {S : Sv} {Q : D → Sv → Prop} {E : Xn → Sv → Prop} (h : (tl z).all isDg = true ∧ tl z ≠ [] ∧ z.length ≤ 3) : Rn Q E (kt (intD [.str z]) S) = Q (.int (NumText.digitsVal (tl z) : Nat)) S := by
  obtain ⟨hd, hne, hl⟩ := h
  have hlen := len_tl z
  show need (z.length ≤ 640) (orFail ((PySem.intText? z).map D.int)) S Q E = _
  rw [intText_digits (allDg hd) hne (by omega)]
  exact propext ⟨fun h => h.2, fun h => ⟨by omega, h⟩⟩
theorem str_eq0 {z : Str} : decide (z = Str.ofString "") = decide (tl z = []) := by
  refine decide_eq_decide.mpr ⟨fun e => by rw [e]; rfl, fun e => ext_tl (x := z) (y := "") (by rw [e]; rfl)⟩
theorem ff_some {p : List Nat} {r : List (List Nat)} {w : Str} (h : partFault p = some w) : firstFault (p :: r) = some w := by
  show (match partFault p with | some w => some w | none => firstFault r) = _
  rw [h]
theorem ff_none {p : List Nat} {r : List (List Nat)} (h : partFault p = none) : firstFault (p :: r) = firstFault r := by
  show (match partFault p with | some w => some w | none => firstFault r) = _
  rw [h]
theorem str_eq48 {z : Str} : decide (z = Str.ofString "0") = decide (tl z = [48]) := by
  refine decide_eq_decide.mpr ⟨fun e => by rw [e]; rfl, fun e => ext_tl (x := z) (y := "0") (by rw [e]; rfl)⟩
theorem sgn_eq48 {c : Nat} : decide ((⟨#[c]⟩ : Str) = Str.ofString "0") = decide (c = 48) := by
  refine decide_eq_decide.mpr ⟨fun e => sgn_inj e, fun e => by rw [e]; rfl⟩
theorem z_and255 {n : Int} (h : 0 ≤ n) : Builtin.bitAnd n 255 = n % 256 := and255 h

def Ss1 := And.intro @z_inDg @z_and255
local macro_rules | `(tactic| walk_at "sk") => `(tactic| exact sk_lit (by decide +kernel))
local macro_rules | `(tactic| walk_at "sk") => `(tactic| (refine sk_app ?_ ?_ <;> walk_at "sk"))
local macro_rules | `(tactic| walk_at "sk") => `(tactic| assumption)
local macro_rules | `(tactic| walk_at "py") => `(tactic| repeat' first | exact pyl_nil | refine pyl_cons ?_ ?_ | exact py_int | exact py_non | exact py_bl | (refine py_str ?_; walk_at "sk") | refine py_tup ?_ | refine py_lst ?_ | (refine pyl_map fun _ _ => ?_) | refine pyl_app ?_ ?_)
local macro_rules | `(tactic| walk_at "sd") => `(tactic| first | assumption | omega | exact trivial | walk_at "sz" | exact cm_l (by omega) | exact cm_r (by omega) | exact cdivw (by omega) (by omega) | exact cshl (by omega) (by omega) (by omega) (by omega) | exact cshl_div (by omega) (by omega) (by omega) (by omega) | exact cpow10 | exact log_small (by omega) (by omega) | exact szL (by omega) | exact szL1 (by omega) | (exact szL (by simp only [List.length_cons, List.length_nil, List.length_map, List.length_append, List.length_replicate, List.length_range]; omega)) | (exact szL1 (by simp only [List.length_cons, List.length_nil, List.length_map, List.length_append, List.length_replicate, List.length_range]; omega)) | (exact szL (by simp only [Str_len_app, len_emp, len_slash]; omega)) | (refine And.intro ?_ ?_ <;> walk_at "sd") | (walk_at "py"; done) | ((simp only [↓Ss13, ↓Ss14, ↓Ss5, Ss8, ↓Ss17, ↓Ss0, ↓Ss12, ↓Ss3, Ss18, Ss2, ↓Ss10, Ss9, ↓Ss19, Ss20, Ss15, ↓Ss4, Ss7, Ss6, ↓Ss11, Ss16, ↓q_intDg, Ss1, List.length_cons, List.length_nil, List.length_map, List.length_append, List.length_replicate, List.length_range, List.length_drop, List.length_take, Nat.reduceLeDiff, Nat.reduceAdd, Int.reduceToNat, Int.reducePow]) <;> omega) | decide +kernel)
local macro_rules | `(tactic| walk_at "x") => `(tactic| simp (maxSteps := 10000000) (disch := walk_at "sd") only [↓Ss13, ↓Ss14, ↓Ss5, Ss8, ↓Ss17, ↓Ss0, ↓Ss12, ↓Ss3, Ss18, Ss2, ↓Ss10, Ss9, ↓Ss19, Ss20, Ss15, ↓Ss4, Ss7, Ss6, ↓Ss11, Ss16, ↓q_intDg, Ss1, eq_self, Int.one_mul, Int.zero_add, Int.add_zero, Int.sub_zero, and_self, and_true, true_and, Int.reduceAdd, Int.reduceSub, Int.reduceMul, Int.reduceNeg, Int.reducePow, Int.reduceToNat, Int.reduceEq, Int.reduceLT, Int.reduceLE, Int.reduceDiv, Int.reduceMod, Nat.reduceAdd, Nat.reduceSub, Nat.reduceMul, Nat.reducePow, Nat.reduceEqDiff, Nat.reduceLT, Bool.not_true, Bool.not_false, decide_true, decide_false, Bool.and_true, Bool.true_and, Bool.and_false, Bool.false_and, Bool.or_true, Bool.true_or, Bool.or_false, Bool.false_or, Bool.not_not, List.map_cons, List.map_nil, List.cons_append, List.nil_append, List.length_cons, List.length_nil, List.length_map, List.isEmpty_nil, List.isEmpty_cons, List.isEmpty_map, Option.isNone_some, Option.isNone_none, Option.isSome_some, Option.isSome_none, Option.getD_some, Option.getD_none])
local macro_rules | `(tactic| walk_at "bt") => `(tactic| repeat' (first | walk_at "x" | with_reducible refine eqD (fun _ => ?_) (fun _ => ?_) | with_reducible refine eqB' (fun _ => ?_) (fun _ => ?_)))
local macro_rules | `(tactic| walk_at "br") => `(tactic| repeat' (first | walk_at "x" | with_reducible refine iteD (fun _ => ?_) (fun _ => ?_) | with_reducible refine iteB (fun _ => ?_) (fun _ => ?_)))
local macro_rules | `(tactic| walk_at "q") => `(tactic| walk_at "x")

section
variable {S : Sv} {Q : D → Sv → Prop} {E : Xn → Sv → Prop}
theorem w_part_fault {z : Str} (hz : z.length ≤ 100000) : Rn Q E (kt (d_part_fault [.str z]) S) = Q (optD (partFault (tl z))) S := by
  have hlen := len_tl z
  refine fe_rt fun Q E q => ?_
  rw [u_part_fault]
  walk_at "x"
  rw [str_eq0]
  refine iteD (fun h => ?_) (fun hne => ?_)
  · have e2 : partFault (tl z) = some ("empty" : Str) := by rw [h]; rfl
    rw [e2] at q
    walk_at "x"
    exact q
  walk_at "x"
  refine lc_map (f := fun c => D.bl (isDg c)) mono_gN (fun c hc Q' k => ?_) ?_
  · walk_at "x"
    exact k
  walk_at "x"
  cases hd : (tl z).all isDg with
  | false =>
    walk_at "x"
    have e2 : partFault (tl z) = some ("digits" : Str) := by unfold partFault; rw [if_neg hne, if_pos hd]
    rw [e2] at q
    exact q
  | true =>
  walk_at "x"
  refine iteD (fun h4 => ?_) (fun h4 => ?_)
  · have e2 : partFault (tl z) = some ("long" : Str) := by unfold partFault; rw [if_neg hne, if_neg (by rw [hd]; simp), if_pos (by omega)]
    rw [e2] at q
    walk_at "x"
    exact q
  obtain ⟨c0, r, hcr⟩ : ∃ c0 r, tl z = c0 :: r := by
    cases e : tl z with
    | nil => exact absurd e hne
    | cons c r => exact ⟨c, r, rfl⟩
  walk_at "x"
  rw [show atI (tl z) 0 = some c0 by rw [hcr]; exact z_at0]
  walk_at "x"
  rw [sgn_eq48]
  have rest : ¬ ((tl z).head? = some 48 ∧ tl z ≠ [48]) → partFault (tl z) = if 255 < NumText.digitsVal (tl z) then some ("large" : Str) else none := fun hh => by
    unfold partFault; rw [if_neg hne, if_neg (by rw [hd]; simp), if_neg (by omega), if_neg hh]
  refine iteD (fun h5 => ?_) (fun h5 => ?_)
  · walk_at "x"
    rw [str_eq48]
    refine iteD (fun h6 => ?_) (fun h6 => ?_)
    · walk_at "x"
      rw [rest fun w => w.2 h6] at q
      refine iteD (fun h8 => ?_) (fun h8 => ?_)
      · rw [if_pos (by omega)] at q; walk_at "x"; exact q
      · rw [if_neg (by omega)] at q; walk_at "x"; exact q
    · have e2 : partFault (tl z) = some ("zero" : Str) := by unfold partFault; rw [if_neg hne, if_neg (by rw [hd]; simp), if_neg (by omega), if_pos ⟨by rw [hcr, h5]; rfl, h6⟩]
      rw [e2] at q
      walk_at "x"
      exact q
  · walk_at "x"
    rw [rest fun w => h5 (by have := w.1; rw [hcr] at this; injection this)] at q
    refine iteD (fun h8 => ?_) (fun h8 => ?_)
    · rw [if_pos (by omega)] at q; walk_at "x"; exact q
    · rw [if_neg (by omega)] at q; walk_at "x"; exact q
end


local macro_rules | `(tactic| walk_at "sd") => `(tactic| first | assumption | omega | exact trivial | walk_at "sz" | exact cm_l (by omega) | exact cm_r (by omega) | exact cdivw (by omega) (by omega) | exact cshl (by omega) (by omega) (by omega) (by omega) | exact cshl_div (by omega) (by omega) (by omega) (by omega) | exact cpow10 | exact log_small (by omega) (by omega) | exact szL (by omega) | exact szL1 (by omega) | (exact szL (by simp only [List.length_cons, List.length_nil, List.length_map, List.length_append, List.length_replicate, List.length_range]; omega)) | (exact szL1 (by simp only [List.length_cons, List.length_nil, List.length_map, List.length_append, List.length_replicate, List.length_range]; omega)) | (exact szL (by simp only [Str_len_app, len_emp, len_slash]; omega)) | (refine And.intro ?_ ?_ <;> walk_at "sd") | (walk_at "py"; done) | ((simp only [↓Ss13, ↓Ss14, ↓Ss5, Ss8, ↓Ss17, ↓Ss0, ↓Ss12, ↓Ss3, Ss18, Ss2, ↓Ss10, Ss9, ↓Ss19, Ss20, Ss15, ↓Ss4, Ss7, Ss6, ↓Ss11, Ss16, ↓q_intDg, Ss1, ↓w_part_fault, w_part_fault, List.length_cons, List.length_nil, List.length_map, List.length_append, List.length_replicate, List.length_range, List.length_drop, List.length_take, Nat.reduceLeDiff, Nat.reduceAdd, Int.reduceToNat, Int.reducePow]) <;> omega) | decide +kernel)
local macro_rules | `(tactic| walk_at "x") => `(tactic| simp (maxSteps := 10000000) (disch := walk_at "sd") only [↓Ss13, ↓Ss14, ↓Ss5, Ss8, ↓Ss17, ↓Ss0, ↓Ss12, ↓Ss3, Ss18, Ss2, ↓Ss10, Ss9, ↓Ss19, Ss20, Ss15, ↓Ss4, Ss7, Ss6, ↓Ss11, Ss16, ↓q_intDg, Ss1, ↓w_part_fault, w_part_fault, eq_self, Int.one_mul, Int.zero_add, Int.add_zero, Int.sub_zero, and_self, and_true, true_and, Int.reduceAdd, Int.reduceSub, Int.reduceMul, Int.reduceNeg, Int.reducePow, Int.reduceToNat, Int.reduceEq, Int.reduceLT, Int.reduceLE, Int.reduceDiv, Int.reduceMod, Nat.reduceAdd, Nat.reduceSub, Nat.reduceMul, Nat.reducePow, Nat.reduceEqDiff, Nat.reduceLT, Bool.not_true, Bool.not_false, decide_true, decide_false, Bool.and_true, Bool.true_and, Bool.and_false, Bool.false_and, Bool.or_true, Bool.true_or, Bool.or_false, Bool.false_or, Bool.not_not, List.map_cons, List.map_nil, List.cons_append, List.nil_append, List.length_cons, List.length_nil, List.length_map, List.isEmpty_nil, List.isEmpty_cons, List.isEmpty_map, Option.isNone_some, Option.isNone_none, Option.isSome_some, Option.isSome_none, Option.getD_some, Option.getD_none])
section
variable {S : Sv} {Q : D → Sv → Prop} {E : Xn → Sv → Prop}
theorem sz_split {z : Str} (hz : z.length ≤ 100000) : z.length + 2 ≤ sizeLine := Nat.le_trans (Nat.add_le_add_right hz 2) (by decide)
theorem w_quad_fault {z : Str} (hz : z.length ≤ 100000) : Rn Q E (kt (d_quad_fault [.str z]) S) = Q (optD (quadFault (tl z))) S := by
  have hlen := len_tl z
  have hz2 := sz_split hz
  have hsp := split_dots z
  have hln : (Txt.split z ("." : Str)).length = (dots (tl z)).length := by rw [← hsp, List.length_map]
  refine fe_rt fun Q E q => ?_
  rw [u_quad_fault]
  walk_at "x"
  refine iteD (fun h => ?_) (fun h => ?_)
  · walk_at "x"
    have h4 : (dots (tl z)).length = 4 := by rw [← hln]; exact Int.ofNat_inj.mp h
    have eq : quadFault (tl z) = firstFault (dots (tl z)) := by unfold quadFault; rw [if_pos h4]
    rw [eq] at q
    refine lp_st (fun x : Sl × Sl => [.sh (.str z), .sh (.lst ((Txt.split z ("." : Str)).map .str)), x.1, x.2]) (fun l r x => firstFault (dots (tl z)) = firstFault (r.map tl)) (.un, .un) rfl (by rw [hsp]) ?_ ?_
    · intro l a r x N e hi hN
      have hm : a ∈ Txt.split z ("." : Str) := by rw [e]; simp
      have hal : a.length ≤ 100000 := by
        have hm2 : tl a ∈ dots (tl z) := by rw [← hsp]; exact List.mem_map_of_mem hm
        have := sp1_len (tl z) [] (tl a) hm2
        rw [len_tl a]
        have e0 : ([] : List Nat).length = 0 := rfl
        omega
      rw [List.map_cons] at hi
      walk_at "x"
      cases hf : partFault (tl a) with
      | some why =>
        rw [ff_some hf] at hi
        simp only [optD]
        walk_at "x"
        rw [hi] at q
        exact q
      | none =>
        rw [ff_none hf] at hi
        simp only [optD]
        walk_at "x"
        exact hN (_, _) hi
    · intro x hi
      rw [hi] at q
      walk_at "x"
      exact q
  · walk_at "x"
    have e2 : quadFault (tl z) = some ("parts" : Str) := by unfold quadFault; rw [if_neg (fun e => h (by rw [hln, e]; rfl))]
    rw [e2] at q
    exact q


local macro_rules | `(tactic| walk_at "sd") => `(tactic| first | assumption | omega | exact trivial | walk_at "sz" | exact cm_l (by omega) | exact cm_r (by omega) | exact cdivw (by omega) (by omega) | exact cshl (by omega) (by omega) (by omega) (by omega) | exact cshl_div (by omega) (by omega) (by omega) (by omega) | exact cpow10 | exact log_small (by omega) (by omega) | exact szL (by omega) | exact szL1 (by omega) | (exact szL (by simp only [List.length_cons, List.length_nil, List.length_map, List.length_append, List.length_replicate, List.length_range]; omega)) | (exact szL1 (by simp only [List.length_cons, List.length_nil, List.length_map, List.length_append, List.length_replicate, List.length_range]; omega)) | (exact szL (by simp only [Str_len_app, len_emp, len_slash]; omega)) | (refine And.intro ?_ ?_ <;> walk_at "sd") | (walk_at "py"; done) | ((simp only [↓Ss13, ↓Ss14, ↓Ss5, Ss8, ↓Ss17, ↓Ss0, ↓Ss12, ↓Ss3, Ss18, Ss2, ↓Ss10, Ss9, ↓Ss19, Ss20, Ss15, ↓Ss4, Ss7, Ss6, ↓Ss11, Ss16, ↓q_intDg, Ss1, ↓w_part_fault, w_part_fault, ↓w_quad_fault, w_quad_fault, List.length_cons, List.length_nil, List.length_map, List.length_append, List.length_replicate, List.length_range, List.length_drop, List.length_take, Nat.reduceLeDiff, Nat.reduceAdd, Int.reduceToNat, Int.reducePow]) <;> omega) | decide +kernel)
local macro_rules | `(tactic| walk_at "x") => `(tactic| simp (maxSteps := 10000000) (disch := walk_at "sd") only [↓Ss13, ↓Ss14, ↓Ss5, Ss8, ↓Ss17, ↓Ss0, ↓Ss12, ↓Ss3, Ss18, Ss2, ↓Ss10, Ss9, ↓Ss19, Ss20, Ss15, ↓Ss4, Ss7, Ss6, ↓Ss11, Ss16, ↓q_intDg, Ss1, ↓w_part_fault, w_part_fault, ↓w_quad_fault, w_quad_fault, eq_self, Int.one_mul, Int.zero_add, Int.add_zero, Int.sub_zero, and_self, and_true, true_and, Int.reduceAdd, Int.reduceSub, Int.reduceMul, Int.reduceNeg, Int.reducePow, Int.reduceToNat, Int.reduceEq, Int.reduceLT, Int.reduceLE, Int.reduceDiv, Int.reduceMod, Nat.reduceAdd, Nat.reduceSub, Nat.reduceMul, Nat.reducePow, Nat.reduceEqDiff, Nat.reduceLT, Bool.not_true, Bool.not_false, decide_true, decide_false, Bool.and_true, Bool.true_and, Bool.and_false, Bool.false_and, Bool.or_true, Bool.true_or, Bool.or_false, Bool.false_or, Bool.not_not, List.map_cons, List.map_nil, List.cons_append, List.nil_append, List.length_cons, List.length_nil, List.length_map, List.isEmpty_nil, List.isEmpty_cons, List.isEmpty_map, Option.isNone_some, Option.isNone_none, Option.isSome_some, Option.isSome_none, Option.getD_some, Option.getD_none])
theorem w_read_quad {z : Str} (hz : z.length ≤ 100000) (hq : quadFault (tl z) = none) : Rn Q E (kt (d_read_quad [.str z]) S) = Q (.int (quadVal (dots (tl z)))) S := by
  obtain ⟨hd4, hps⟩ := quad_none hq
  have hz2 := sz_split hz
  have hsp := split_dots z
  refine fe_rt fun Q E q => ?_
  rw [u_read_quad]
  walk_at "x"
  rw [hq]
  simp only [optD]
  walk_at "x"
  refine lp_st (fun x : Int × Sl => [.sh (.str z), .sh .non, .sh (.int x.1), x.2]) (fun l r x => x.1 = quadVal (l.map tl)) (0, .un) rfl rfl ?_ ?_
  · intro l a r x N e hi hN
    have hm : a ∈ Txt.split z ("." : Str) := by rw [e]; simp
    have hm2 : tl a ∈ dots (tl z) := by rw [← hsp]; exact List.mem_map_of_mem hm
    obtain ⟨f1, f2, f3, f4, f5⟩ := fault_none (hps _ hm2)
    have hxl := len_tl a
    walk_at "x"
    refine hN (_, _) ?_
    rw [hi, List.map_append, List.map_cons, List.map_nil]
    unfold quadVal
    rw [List.foldl_append]
    rfl
  · intro x hi
    rw [hsp] at hi
    walk_at "x"
    rw [hi]
    exact q
theorem w_read_quad'bad {z why : Str} (hz : z.length ≤ 100000) (hq : quadFault (tl z) = some why) : Rn Q E (kt (d_read_quad [.str z]) S) = E (badText why) S := by
  rw [u_read_quad]
  walk_at "x"
  rw [hq]
  simp only [optD]
  walk_at "x"
theorem w_quad_parts {n : Int} (h0 : 0 ≤ n) : Rn Q E (kt (d_quad_parts [.int n]) S) = Q (.lst ((quadParts n).map .str)) S := by
  refine fe_rt fun Q E q => ?_
  rw [u_quad_parts]
  walk_at "x"
  exact q

def Ss21 := And.intro @w_read_quad (And.intro @w_read_quad'bad @w_quad_parts)
def Ss22 := And.intro @w_read_quad (And.intro @w_read_quad'bad @w_quad_parts)
local macro_rules | `(tactic| walk_at "sd") => `(tactic| first | assumption | omega | exact trivial | walk_at "sz" | exact cm_l (by omega) | exact cm_r (by omega) | exact cdivw (by omega) (by omega) | exact cshl (by omega) (by omega) (by omega) (by omega) | exact cshl_div (by omega) (by omega) (by omega) (by omega) | exact cpow10 | exact log_small (by omega) (by omega) | exact szL (by omega) | exact szL1 (by omega) | (exact szL (by simp only [List.length_cons, List.length_nil, List.length_map, List.length_append, List.length_replicate, List.length_range]; omega)) | (exact szL1 (by simp only [List.length_cons, List.length_nil, List.length_map, List.length_append, List.length_replicate, List.length_range]; omega)) | (exact szL (by simp only [Str_len_app, len_emp, len_slash]; omega)) | (refine And.intro ?_ ?_ <;> walk_at "sd") | (walk_at "py"; done) | ((simp only [↓Ss13, ↓Ss14, ↓Ss5, Ss8, ↓Ss17, ↓Ss0, ↓Ss12, ↓Ss3, Ss18, Ss2, ↓Ss10, Ss9, ↓Ss19, Ss20, Ss15, ↓Ss4, Ss7, Ss6, ↓Ss11, Ss16, ↓q_intDg, Ss1, ↓w_part_fault, w_part_fault, ↓w_quad_fault, w_quad_fault, ↓Ss21, Ss22, List.length_cons, List.length_nil, List.length_map, List.length_append, List.length_replicate, List.length_range, List.length_drop, List.length_take, Nat.reduceLeDiff, Nat.reduceAdd, Int.reduceToNat, Int.reducePow]) <;> omega) | decide +kernel)
local macro_rules | `(tactic| walk_at "x") => `(tactic| simp (maxSteps := 10000000) (disch := walk_at "sd") only [↓Ss13, ↓Ss14, ↓Ss5, Ss8, ↓Ss17, ↓Ss0, ↓Ss12, ↓Ss3, Ss18, Ss2, ↓Ss10, Ss9, ↓Ss19, Ss20, Ss15, ↓Ss4, Ss7, Ss6, ↓Ss11, Ss16, ↓q_intDg, Ss1, ↓w_part_fault, w_part_fault, ↓w_quad_fault, w_quad_fault, ↓Ss21, Ss22, eq_self, Int.one_mul, Int.zero_add, Int.add_zero, Int.sub_zero, and_self, and_true, true_and, Int.reduceAdd, Int.reduceSub, Int.reduceMul, Int.reduceNeg, Int.reducePow, Int.reduceToNat, Int.reduceEq, Int.reduceLT, Int.reduceLE, Int.reduceDiv, Int.reduceMod, Nat.reduceAdd, Nat.reduceSub, Nat.reduceMul, Nat.reducePow, Nat.reduceEqDiff, Nat.reduceLT, Bool.not_true, Bool.not_false, decide_true, decide_false, Bool.and_true, Bool.true_and, Bool.and_false, Bool.false_and, Bool.or_true, Bool.true_or, Bool.or_false, Bool.false_or, Bool.not_not, List.map_cons, List.map_nil, List.cons_append, List.nil_append, List.length_cons, List.length_nil, List.length_map, List.isEmpty_nil, List.isEmpty_cons, List.isEmpty_map, Option.isNone_some, Option.isNone_none, Option.isSome_some, Option.isSome_none, Option.getD_some, Option.getD_none])
theorem w_quad_text {n : Int} (h0 : 0 ≤ n) : Rn Q E (kt (d_quad_text [.int n]) S) = Q (.str (quadS n)) S := by
  have := quadParts_sz h0
  rw [u_quad_text]
  walk_at "x"
  rfl
end


end Dn

set_option Elab.async false
set_option linter.all false
set_option maxRecDepth 100000
set_option maxHeartbeats 4000000
set_option pp.deepTerms false
set_option pp.deepTerms.threshold 5
set_option pp.maxSteps 1500

namespace Dn
open PySem PySem.W PySem.Spec PyProof.Rows L2 TL Bits An
theorem par_one (c : Nat) : ∀ (l acc : List Nat), (par [c] acc l).isSome = decide (c ∈ l)
  | [], _ => by simp [par]
  | d :: r, acc => by
    show (if pre [c] (d :: r) = true then some (acc, (d :: r).drop [c].length) else par [c] (acc ++ [d]) r).isSome = _
    have hp : pre [c] (d :: r) = decide (d = c) := by
      unfold pre
      show ([d] == [c]) = _
      by_cases h : d = c <;> simp [h]
    rw [hp]
    by_cases h : d = c
    · rw [if_pos (by rw [h]; simp)]
      simp [h]
    · rw [if_neg (by simp [h]), par_one c r]
      have h' : ¬ c = d := fun e => h e.symm
      simp [h']
theorem inStr_eq (a b : Str) : inStr a b = inS a b := by
  unfold inStr
  split
  · rename_i c hc
    have ht : tl a = [c] := hc
    rw [inS_par a b (by rw [ht]; simp), ht, par_one]
  · rfl
theorem z_inDot {z : Str} : inStr (Str.ofString ".") z = decide (46 ∈ z.cps.toList) := rfl
theorem z_in2 {z : Str} : inStr (Str.ofString "::") z = inS (Str.ofString "::") z := inStr_eq _ _
theorem z_in3 {z : Str} : inStr (Str.ofString ":::") z = inS (Str.ofString ":::") z := inStr_eq _ _
theorem z_inLow {z : Str} : inStr (Txt.lower z) (Str.ofString "0123456789abcdef") = inS (Txt.lower z) An.hexD := inStr_eq _ _
theorem z_inCd {c : Nat} : inStr ⟨#[c]⟩ (Str.ofString ":.") = decide (c ∈ (":." : Str).cps.toList) := rfl
theorem z_len1 {c : Nat} : (⟨#[c]⟩ : Str).length = 1 := rfl
theorem sz_cut {z : Str} {lo hi : Option Int} (hz : z.length ≤ 100000) : (cutS z lo hi).length ≤ 100000 := Nat.le_trans (cutS_len ..) hz
def optL : Option (List Str) → D
  | none => .non
  | some l => .lst (l.map .str)
theorem q_isL2 {o : Option (List Str)} {S : Sv} {Q : D → Sv → Prop} {E : Xn → Sv → Prop} {neg : Bool} : Rn Q E (kt (isD neg (optL o) .non) S) = Q (.bl (neg ^^ o.isNone)) S := by
  cases o <;> cases neg <;> exact propext ⟨id, id⟩
theorem q_isO2 {o : Option Str} {S : Sv} {Q : D → Sv → Prop} {E : Xn → Sv → Prop} {neg : Bool} : Rn Q E (kt (isD neg (optD o) .non) S) = Q (.bl (neg ^^ o.isNone)) S := by
  cases o <;> cases neg <;> exact propext ⟨id, id⟩
theorem q_orL {o : Option (List Str)} {S : Sv} {Q : D → Sv → Prop} {E : Xn → Sv → Prop} : Rn Q E (kt (orN (optL o)) S) = Q (.lst ((o.getD []).map .str)) S := by
  cases o with
  | none => exact q_orNn
  | some l => exact q_orNl
theorem z_xf {b : Bool} : (false ^^ b) = b := xf b
theorem z_xt {b : Bool} : (true ^^ b) = !b := xt b

def Ss24 := And.intro @q_isL2 (And.intro @q_isO2 @q_orL)
def Ss23 := And.intro (And.intro (And.intro @z_inDot @z_in2) (And.intro @z_in3 @z_inLow)) (And.intro (And.intro @z_inCd @z_len1) (And.intro @z_xf @z_xt))
local macro_rules | `(tactic| walk_at "sk") => `(tactic| exact sk_lit (by decide +kernel))
local macro_rules | `(tactic| walk_at "sk") => `(tactic| (refine sk_app ?_ ?_ <;> walk_at "sk"))
local macro_rules | `(tactic| walk_at "sk") => `(tactic| assumption)
local macro_rules | `(tactic| walk_at "py") => `(tactic| repeat' first | exact pyl_nil | refine pyl_cons ?_ ?_ | exact py_int | exact py_non | exact py_bl | (refine py_str ?_; walk_at "sk") | refine py_tup ?_ | refine py_lst ?_ | (refine pyl_map fun _ _ => ?_) | refine pyl_app ?_ ?_)
local macro_rules | `(tactic| walk_at "sd") => `(tactic| first | assumption | omega | exact trivial | walk_at "sz" | exact cm_l (by omega) | exact cm_r (by omega) | exact cdivw (by omega) (by omega) | exact cshl (by omega) (by omega) (by omega) (by omega) | exact cshl_div (by omega) (by omega) (by omega) (by omega) | exact cpow10 | exact log_small (by omega) (by omega) | exact szL (by omega) | exact szL1 (by omega) | (exact szL (by simp only [List.length_cons, List.length_nil, List.length_map, List.length_append, List.length_replicate, List.length_range]; omega)) | (exact szL1 (by simp only [List.length_cons, List.length_nil, List.length_map, List.length_append, List.length_replicate, List.length_range]; omega)) | (exact szL (by simp only [Str_len_app, len_emp, len_slash]; omega)) | (refine And.intro ?_ ?_ <;> walk_at "sd") | (walk_at "py"; done) | ((simp only [↓Ss13, ↓Ss14, ↓Ss5, Ss8, ↓Ss17, ↓Ss0, ↓Ss12, ↓Ss3, Ss18, Ss2, ↓Ss10, Ss9, ↓Ss19, Ss20, Ss15, ↓Ss4, Ss7, Ss6, ↓Ss11, Ss16, ↓q_intDg, Ss1, ↓w_part_fault, w_part_fault, ↓w_quad_fault, w_quad_fault, ↓Ss21, Ss22, ↓w_quad_text, w_quad_text, ↓Ss24, Ss23, List.length_cons, List.length_nil, List.length_map, List.length_append, List.length_replicate, List.length_range, List.length_drop, List.length_take, Nat.reduceLeDiff, Nat.reduceAdd, Int.reduceToNat, Int.reducePow]) <;> omega) | decide +kernel)
local macro_rules | `(tactic| walk_at "x") => `(tactic| simp (maxSteps := 10000000) (disch := walk_at "sd") only [↓Ss13, ↓Ss14, ↓Ss5, Ss8, ↓Ss17, ↓Ss0, ↓Ss12, ↓Ss3, Ss18, Ss2, ↓Ss10, Ss9, ↓Ss19, Ss20, Ss15, ↓Ss4, Ss7, Ss6, ↓Ss11, Ss16, ↓q_intDg, Ss1, ↓w_part_fault, w_part_fault, ↓w_quad_fault, w_quad_fault, ↓Ss21, Ss22, ↓w_quad_text, w_quad_text, ↓Ss24, Ss23, eq_self, Int.one_mul, Int.zero_add, Int.add_zero, Int.sub_zero, and_self, and_true, true_and, Int.reduceAdd, Int.reduceSub, Int.reduceMul, Int.reduceNeg, Int.reducePow, Int.reduceToNat, Int.reduceEq, Int.reduceLT, Int.reduceLE, Int.reduceDiv, Int.reduceMod, Nat.reduceAdd, Nat.reduceSub, Nat.reduceMul, Nat.reducePow, Nat.reduceEqDiff, Nat.reduceLT, Bool.not_true, Bool.not_false, decide_true, decide_false, Bool.and_true, Bool.true_and, Bool.and_false, Bool.false_and, Bool.or_true, Bool.true_or, Bool.or_false, Bool.false_or, Bool.not_not, List.map_cons, List.map_nil, List.cons_append, List.nil_append, List.length_cons, List.length_nil, List.length_map, List.isEmpty_nil, List.isEmpty_cons, List.isEmpty_map, Option.isNone_some, Option.isNone_none, Option.isSome_some, Option.isSome_none, Option.getD_some, Option.getD_none])
local macro_rules | `(tactic| walk_at "bt") => `(tactic| repeat' (first | walk_at "x" | with_reducible refine eqD (fun _ => ?_) (fun _ => ?_) | with_reducible refine eqB' (fun _ => ?_) (fun _ => ?_)))
local macro_rules | `(tactic| walk_at "br") => `(tactic| repeat' (first | walk_at "x" | with_reducible refine iteD (fun _ => ?_) (fun _ => ?_) | with_reducible refine iteB (fun _ => ?_) (fun _ => ?_)))
local macro_rules | `(tactic| walk_at "q") => `(tactic| walk_at "x")

section
variable {S : Sv} {Q : D → Sv → Prop} {E : Xn → Sv → Prop}
theorem w_quad_place {z : Str} : Rn Q E (kt (d_quad_place [.str z]) S) = Q (.int (qPlace z)) S := by
  rw [u_quad_place]
  walk_at "x"
  rfl
theorem w_has_wrong_gaps {z : Str} : Rn Q E (kt (d_has_wrong_gaps [.str z]) S) = Q (.bl (wrongGaps z)) S := by
  rw [u_has_wrong_gaps]
  unfold wrongGaps
  walk_at "bt" <;> simp [*]
theorem w_has_wrong_ends {z : Str} : Rn Q E (kt (d_has_wrong_ends [.str z]) S) = Q (.bl (wrongEnds z)) S := by
  rw [u_has_wrong_ends]
  unfold wrongEnds
  walk_at "bt" <;> simp [*]
theorem w_hex_groups {z : Str} (hz : z.length ≤ 100000) : Rn Q E (kt (d_hex_groups [.str z]) S) = Q (.lst ((hexGroups z).map .str)) S := by
  have hz2 := sz_split hz
  rw [u_hex_groups]
  walk_at "x"
  unfold hexGroups
  refine eqD (fun h => ?_) (fun h => ?_)
  · rw [if_pos h]; walk_at "x"
  · rw [if_neg h]; walk_at "x"

def Ss25 := And.intro (And.intro @w_quad_place @w_has_wrong_gaps) (And.intro @w_has_wrong_ends @w_hex_groups)
def Ss26 := And.intro (And.intro @w_quad_place @w_has_wrong_gaps) (And.intro @w_has_wrong_ends @w_hex_groups)
local macro_rules | `(tactic| walk_at "sd") => `(tactic| first | assumption | omega | exact trivial | walk_at "sz" | exact cm_l (by omega) | exact cm_r (by omega) | exact cdivw (by omega) (by omega) | exact cshl (by omega) (by omega) (by omega) (by omega) | exact cshl_div (by omega) (by omega) (by omega) (by omega) | exact cpow10 | exact log_small (by omega) (by omega) | exact szL (by omega) | exact szL1 (by omega) | (exact szL (by simp only [List.length_cons, List.length_nil, List.length_map, List.length_append, List.length_replicate, List.length_range]; omega)) | (exact szL1 (by simp only [List.length_cons, List.length_nil, List.length_map, List.length_append, List.length_replicate, List.length_range]; omega)) | (exact szL (by simp only [Str_len_app, len_emp, len_slash]; omega)) | (refine And.intro ?_ ?_ <;> walk_at "sd") | (walk_at "py"; done) | ((simp only [↓Ss13, ↓Ss14, ↓Ss5, Ss8, ↓Ss17, ↓Ss0, ↓Ss12, ↓Ss3, Ss18, Ss2, ↓Ss10, Ss9, ↓Ss19, Ss20, Ss15, ↓Ss4, Ss7, Ss6, ↓Ss11, Ss16, ↓q_intDg, Ss1, ↓w_part_fault, w_part_fault, ↓w_quad_fault, w_quad_fault, ↓Ss21, Ss22, ↓w_quad_text, w_quad_text, ↓Ss24, Ss23, ↓Ss25, Ss26, List.length_cons, List.length_nil, List.length_map, List.length_append, List.length_replicate, List.length_range, List.length_drop, List.length_take, Nat.reduceLeDiff, Nat.reduceAdd, Int.reduceToNat, Int.reducePow]) <;> omega) | decide +kernel)
local macro_rules | `(tactic| walk_at "x") => `(tactic| simp (maxSteps := 10000000) (disch := walk_at "sd") only [↓Ss13, ↓Ss14, ↓Ss5, Ss8, ↓Ss17, ↓Ss0, ↓Ss12, ↓Ss3, Ss18, Ss2, ↓Ss10, Ss9, ↓Ss19, Ss20, Ss15, ↓Ss4, Ss7, Ss6, ↓Ss11, Ss16, ↓q_intDg, Ss1, ↓w_part_fault, w_part_fault, ↓w_quad_fault, w_quad_fault, ↓Ss21, Ss22, ↓w_quad_text, w_quad_text, ↓Ss24, Ss23, ↓Ss25, Ss26, eq_self, Int.one_mul, Int.zero_add, Int.add_zero, Int.sub_zero, and_self, and_true, true_and, Int.reduceAdd, Int.reduceSub, Int.reduceMul, Int.reduceNeg, Int.reducePow, Int.reduceToNat, Int.reduceEq, Int.reduceLT, Int.reduceLE, Int.reduceDiv, Int.reduceMod, Nat.reduceAdd, Nat.reduceSub, Nat.reduceMul, Nat.reducePow, Nat.reduceEqDiff, Nat.reduceLT, Bool.not_true, Bool.not_false, decide_true, decide_false, Bool.and_true, Bool.true_and, Bool.and_false, Bool.false_and, Bool.or_true, Bool.true_or, Bool.or_false, Bool.false_or, Bool.not_not, List.map_cons, List.map_nil, List.cons_append, List.nil_append, List.length_cons, List.length_nil, List.length_map, List.isEmpty_nil, List.isEmpty_cons, List.isEmpty_map, Option.isNone_some, Option.isNone_none, Option.isSome_some, Option.isSome_none, Option.getD_some, Option.getD_none])
theorem w_has_wrong_quad {z : Str} (hz : z.length ≤ 100000) : Rn Q E (kt (d_has_wrong_quad [.str z]) S) = Q (.bl (wrongQuad z)) S := by
  have hc := sz_cut (lo := some (qPlace z)) (hi := none) hz
  rw [u_has_wrong_quad]
  unfold wrongQuad
  walk_at "bt" <;> simp [*]
end


local macro_rules | `(tactic| walk_at "sd") => `(tactic| first | assumption | omega | exact trivial | walk_at "sz" | exact cm_l (by omega) | exact cm_r (by omega) | exact cdivw (by omega) (by omega) | exact cshl (by omega) (by omega) (by omega) (by omega) | exact cshl_div (by omega) (by omega) (by omega) (by omega) | exact cpow10 | exact log_small (by omega) (by omega) | exact szL (by omega) | exact szL1 (by omega) | (exact szL (by simp only [List.length_cons, List.length_nil, List.length_map, List.length_append, List.length_replicate, List.length_range]; omega)) | (exact szL1 (by simp only [List.length_cons, List.length_nil, List.length_map, List.length_append, List.length_replicate, List.length_range]; omega)) | (exact szL (by simp only [Str_len_app, len_emp, len_slash]; omega)) | (refine And.intro ?_ ?_ <;> walk_at "sd") | (walk_at "py"; done) | ((simp only [↓Ss13, ↓Ss14, ↓Ss5, Ss8, ↓Ss17, ↓Ss0, ↓Ss12, ↓Ss3, Ss18, Ss2, ↓Ss10, Ss9, ↓Ss19, Ss20, Ss15, ↓Ss4, Ss7, Ss6, ↓Ss11, Ss16, ↓q_intDg, Ss1, ↓w_part_fault, w_part_fault, ↓w_quad_fault, w_quad_fault, ↓Ss21, Ss22, ↓w_quad_text, w_quad_text, ↓Ss24, Ss23, ↓Ss25, Ss26, ↓w_has_wrong_quad, w_has_wrong_quad, List.length_cons, List.length_nil, List.length_map, List.length_append, List.length_replicate, List.length_range, List.length_drop, List.length_take, Nat.reduceLeDiff, Nat.reduceAdd, Int.reduceToNat, Int.reducePow]) <;> omega) | decide +kernel)
local macro_rules | `(tactic| walk_at "x") => `(tactic| simp (maxSteps := 10000000) (disch := walk_at "sd") only [↓Ss13, ↓Ss14, ↓Ss5, Ss8, ↓Ss17, ↓Ss0, ↓Ss12, ↓Ss3, Ss18, Ss2, ↓Ss10, Ss9, ↓Ss19, Ss20, Ss15, ↓Ss4, Ss7, Ss6, ↓Ss11, Ss16, ↓q_intDg, Ss1, ↓w_part_fault, w_part_fault, ↓w_quad_fault, w_quad_fault, ↓Ss21, Ss22, ↓w_quad_text, w_quad_text, ↓Ss24, Ss23, ↓Ss25, Ss26, ↓w_has_wrong_quad, w_has_wrong_quad, eq_self, Int.one_mul, Int.zero_add, Int.add_zero, Int.sub_zero, and_self, and_true, true_and, Int.reduceAdd, Int.reduceSub, Int.reduceMul, Int.reduceNeg, Int.reducePow, Int.reduceToNat, Int.reduceEq, Int.reduceLT, Int.reduceLE, Int.reduceDiv, Int.reduceMod, Nat.reduceAdd, Nat.reduceSub, Nat.reduceMul, Nat.reducePow, Nat.reduceEqDiff, Nat.reduceLT, Bool.not_true, Bool.not_false, decide_true, decide_false, Bool.and_true, Bool.true_and, Bool.and_false, Bool.false_and, Bool.or_true, Bool.true_or, Bool.or_false, Bool.false_or, Bool.not_not, List.map_cons, List.map_nil, List.cons_append, List.nil_append, List.length_cons, List.length_nil, List.length_map, List.isEmpty_nil, List.isEmpty_cons, List.isEmpty_map, Option.isNone_some, Option.isNone_none, Option.isSome_some, Option.isSome_none, Option.getD_some, Option.getD_none])
def p6D (p : P6) : D := .tup [.lst (p.ahead.map .str), optL p.behind, .str p.quad]
theorem q_p6 {t : Tgs} {p : P6} {ρ : Rh} {k : Rh → Prop} : gT t (p6D p) ρ k = t [.lst (p.ahead.map .str), optL p.behind, .str p.quad] ρ k := propext ⟨id, id⟩
section
variable {S : Sv} {Q : D → Sv → Prop} {E : Xn → Sv → Prop}
theorem w_parts_of {z : Str} (hz : z.length ≤ 100000) : Rn Q E (kt (d_parts_of [.str z]) S) = Q (p6D (partsOf z)) S := by
  have hpz : (An.plainOf z).length ≤ 100000 := Nat.le_trans (plain_len z) hz
  have pl := part_len (An.plainOf z) ("::" : Str) (by decide +kernel)
  have l1 : (Txt.partition (An.plainOf z) ("::" : Str)).1.length ≤ 100000 := by omega
  have l2 : (Txt.partition (An.plainOf z) ("::" : Str)).2.2.length ≤ 100000 := by omega
  have l3 : (Txt.rstripChars (Txt.partition (An.plainOf z) ("::" : Str)).2.2 (":" : Str)).length ≤ 100000 := Nat.le_trans (len_rstripChars ..) l2
  have l4 : (Txt.rstripChars (An.plainOf z) (":" : Str)).length ≤ 100000 := Nat.le_trans (len_rstripChars ..) hpz
  rw [u_parts_of]
  unfold partsOf
  by_cases h46 : 46 ∈ z.cps.toList
  · by_cases he : cutS z (some (qPlace z)) none = Str.ofString ""
    · have hq : quadOf z = cutS z (some (qPlace z)) none := if_pos h46
      have hp : An.plainOf z = z := if_pos (by rw [hq]; exact he)
      rw [hp] at l1 l2 l3 l4
      rw [hp, hq]
      walk_at "bt" <;> simp [*, p6D, optL]
    · have hq : quadOf z = cutS z (some (qPlace z)) none := if_pos h46
      have hp : An.plainOf z = cutS z none (some (qPlace z)) := if_neg (by rw [hq]; exact he)
      rw [hp] at hpz l1 l2 l3 l4
      rw [hp, hq]
      walk_at "bt" <;> simp [*, p6D, optL]
  · have hq : quadOf z = Str.ofString "" := if_neg h46
    have hp : An.plainOf z = z := if_pos hq
    rw [hp] at l1 l2 l3 l4
    rw [hp, hq]
    walk_at "bt" <;> simp [*, p6D, optL]
end

def Ss27 := And.intro @q_p6 @w_parts_of
local macro_rules | `(tactic| walk_at "sd") => `(tactic| first | assumption | omega | exact trivial | walk_at "sz" | exact cm_l (by omega) | exact cm_r (by omega) | exact cdivw (by omega) (by omega) | exact cshl (by omega) (by omega) (by omega) (by omega) | exact cshl_div (by omega) (by omega) (by omega) (by omega) | exact cpow10 | exact log_small (by omega) (by omega) | exact szL (by omega) | exact szL1 (by omega) | (exact szL (by simp only [List.length_cons, List.length_nil, List.length_map, List.length_append, List.length_replicate, List.length_range]; omega)) | (exact szL1 (by simp only [List.length_cons, List.length_nil, List.length_map, List.length_append, List.length_replicate, List.length_range]; omega)) | (exact szL (by simp only [Str_len_app, len_emp, len_slash]; omega)) | (refine And.intro ?_ ?_ <;> walk_at "sd") | (walk_at "py"; done) | ((simp only [↓Ss13, ↓Ss14, ↓Ss5, Ss8, ↓Ss17, ↓Ss0, ↓Ss12, ↓Ss3, Ss18, Ss2, ↓Ss10, Ss9, ↓Ss19, Ss20, Ss15, ↓Ss4, Ss7, Ss6, ↓Ss11, Ss16, ↓q_intDg, Ss1, ↓w_part_fault, w_part_fault, ↓w_quad_fault, w_quad_fault, ↓Ss21, Ss22, ↓w_quad_text, w_quad_text, ↓Ss24, Ss23, ↓Ss25, Ss26, ↓w_has_wrong_quad, w_has_wrong_quad, ↓Ss27, w_parts_of, List.length_cons, List.length_nil, List.length_map, List.length_append, List.length_replicate, List.length_range, List.length_drop, List.length_take, Nat.reduceLeDiff, Nat.reduceAdd, Int.reduceToNat, Int.reducePow]) <;> omega) | decide +kernel)
local macro_rules | `(tactic| walk_at "x") => `(tactic| simp (maxSteps := 10000000) (disch := walk_at "sd") only [↓Ss13, ↓Ss14, ↓Ss5, Ss8, ↓Ss17, ↓Ss0, ↓Ss12, ↓Ss3, Ss18, Ss2, ↓Ss10, Ss9, ↓Ss19, Ss20, Ss15, ↓Ss4, Ss7, Ss6, ↓Ss11, Ss16, ↓q_intDg, Ss1, ↓w_part_fault, w_part_fault, ↓w_quad_fault, w_quad_fault, ↓Ss21, Ss22, ↓w_quad_text, w_quad_text, ↓Ss24, Ss23, ↓Ss25, Ss26, ↓w_has_wrong_quad, w_has_wrong_quad, ↓Ss27, w_parts_of, eq_self, Int.one_mul, Int.zero_add, Int.add_zero, Int.sub_zero, and_self, and_true, true_and, Int.reduceAdd, Int.reduceSub, Int.reduceMul, Int.reduceNeg, Int.reducePow, Int.reduceToNat, Int.reduceEq, Int.reduceLT, Int.reduceLE, Int.reduceDiv, Int.reduceMod, Nat.reduceAdd, Nat.reduceSub, Nat.reduceMul, Nat.reducePow, Nat.reduceEqDiff, Nat.reduceLT, Bool.not_true, Bool.not_false, decide_true, decide_false, Bool.and_true, Bool.true_and, Bool.and_false, Bool.false_and, Bool.or_true, Bool.true_or, Bool.or_false, Bool.false_or, Bool.not_not, List.map_cons, List.map_nil, List.cons_append, List.nil_append, List.length_cons, List.length_nil, List.length_map, List.isEmpty_nil, List.isEmpty_cons, List.isEmpty_map, Option.isNone_some, Option.isNone_none, Option.isSome_some, Option.isSome_none, Option.getD_some, Option.getD_none])
section
variable {S : Sv} {Q : D → Sv → Prop} {E : Xn → Sv → Prop}
theorem w_has_wrong_count {p : P6} : Rn Q E (kt (d_has_wrong_count [.lst (p.ahead.map .str), optL p.behind, .str p.quad]) S) = Q (.bl p.wrong) S := by
  obtain ⟨a, b, q⟩ := p
  rw [u_has_wrong_count]
  unfold P6.wrong P6.many
  have dv : ∀ n : Int, decide (V.int n = V.int 8) = decide (n = 8) := fun n => decide_eq_decide.mpr ⟨fun h => by injection h, fun h => by rw [h]⟩
  have lr : ∀ (c : Prop) [Decidable c], (if (!decide c) = true then (1 : Int) else 0) = if c then 0 else 1 := fun c _ => by by_cases h : c <;> simp [h]
  rcases b with _ | _ | ⟨x, l⟩
  · simp only [optL]
    walk_at "x"
    simp [dv, lr]
  · simp only [optL]
    walk_at "x"
    simp [lr]
  · simp only [optL]
    walk_at "x"
    simp [lr]
theorem w_hex_number {z : Str} (hz : z.length ≤ 100000) (hh : hexOk z) : Rn Q E (kt (d_hex_number [.str z]) S) = Q (.int (hexNum z : Nat)) S := by
  have hz2 : z.length ≤ 5592405 := by omega
  refine fe_rt fun Q E q => ?_
  rw [u_hex_number]
  walk_at "x"
  refine lp_st (fun x : Nat × Sl => [.sh (.str z), .sh (.int (x.1 : Nat)), x.2]) (fun l r x => x.1 = l.foldl (fun a c => a * 16 + hx c) 0) (0, .un) rfl rfl ?_ ?_
  · intro l c r x N e hi hN
    have hc : c ∈ An.hexD.cps.toList := hh c (by rw [e]; simp)
    have hi0 : Txt.index0 (Str.ofString "0123456789abcdef") ⟨#[c]⟩ = some (hx c) := hx_at c hc
    walk_at "x"
    rw [hi0]
    walk_at "x"
    refine hN (x.1 * 16 + hx c, _) ?_
    rw [hi, List.foldl_append]
    rfl
  · intro x hi
    walk_at "x"
    rw [hi]
    exact q

def Ss28 := And.intro @w_has_wrong_count @w_hex_number
def Ss29 := And.intro @w_has_wrong_count @w_hex_number
local macro_rules | `(tactic| walk_at "sd") => `(tactic| first | assumption | omega | exact trivial | walk_at "sz" | exact cm_l (by omega) | exact cm_r (by omega) | exact cdivw (by omega) (by omega) | exact cshl (by omega) (by omega) (by omega) (by omega) | exact cshl_div (by omega) (by omega) (by omega) (by omega) | exact cpow10 | exact log_small (by omega) (by omega) | exact szL (by omega) | exact szL1 (by omega) | (exact szL (by simp only [List.length_cons, List.length_nil, List.length_map, List.length_append, List.length_replicate, List.length_range]; omega)) | (exact szL1 (by simp only [List.length_cons, List.length_nil, List.length_map, List.length_append, List.length_replicate, List.length_range]; omega)) | (exact szL (by simp only [Str_len_app, len_emp, len_slash]; omega)) | (refine And.intro ?_ ?_ <;> walk_at "sd") | (walk_at "py"; done) | ((simp only [↓Ss13, ↓Ss14, ↓Ss5, Ss8, ↓Ss17, ↓Ss0, ↓Ss12, ↓Ss3, Ss18, Ss2, ↓Ss10, Ss9, ↓Ss19, Ss20, Ss15, ↓Ss4, Ss7, Ss6, ↓Ss11, Ss16, ↓q_intDg, Ss1, ↓w_part_fault, w_part_fault, ↓w_quad_fault, w_quad_fault, ↓Ss21, Ss22, ↓w_quad_text, w_quad_text, ↓Ss24, Ss23, ↓Ss25, Ss26, ↓w_has_wrong_quad, w_has_wrong_quad, ↓Ss27, w_parts_of, ↓Ss28, Ss29, List.length_cons, List.length_nil, List.length_map, List.length_append, List.length_replicate, List.length_range, List.length_drop, List.length_take, Nat.reduceLeDiff, Nat.reduceAdd, Int.reduceToNat, Int.reducePow]) <;> omega) | decide +kernel)
local macro_rules | `(tactic| walk_at "x") => `(tactic| simp (maxSteps := 10000000) (disch := walk_at "sd") only [↓Ss13, ↓Ss14, ↓Ss5, Ss8, ↓Ss17, ↓Ss0, ↓Ss12, ↓Ss3, Ss18, Ss2, ↓Ss10, Ss9, ↓Ss19, Ss20, Ss15, ↓Ss4, Ss7, Ss6, ↓Ss11, Ss16, ↓q_intDg, Ss1, ↓w_part_fault, w_part_fault, ↓w_quad_fault, w_quad_fault, ↓Ss21, Ss22, ↓w_quad_text, w_quad_text, ↓Ss24, Ss23, ↓Ss25, Ss26, ↓w_has_wrong_quad, w_has_wrong_quad, ↓Ss27, w_parts_of, ↓Ss28, Ss29, eq_self, Int.one_mul, Int.zero_add, Int.add_zero, Int.sub_zero, and_self, and_true, true_and, Int.reduceAdd, Int.reduceSub, Int.reduceMul, Int.reduceNeg, Int.reducePow, Int.reduceToNat, Int.reduceEq, Int.reduceLT, Int.reduceLE, Int.reduceDiv, Int.reduceMod, Nat.reduceAdd, Nat.reduceSub, Nat.reduceMul, Nat.reducePow, Nat.reduceEqDiff, Nat.reduceLT, Bool.not_true, Bool.not_false, decide_true, decide_false, Bool.and_true, Bool.true_and, Bool.and_false, Bool.false_and, Bool.or_true, Bool.true_or, Bool.or_false, Bool.false_or, Bool.not_not, List.map_cons, List.map_nil, List.cons_append, List.nil_append, List.length_cons, List.length_nil, List.length_map, List.isEmpty_nil, List.isEmpty_cons, List.isEmpty_map, Option.isNone_some, Option.isNone_none, Option.isSome_some, Option.isSome_none, Option.getD_some, Option.getD_none])
theorem w_groups_fault {z : Str} (hz : z.length ≤ 100000) : Rn Q E (kt (d_groups_fault [.str z]) S) = Q (optD (g6Fault z)) S := by
  have hlen := len_tl z
  obtain ⟨pb1, pb2, pb3⟩ := parts_b z
  refine fe_rt fun Q E q => ?_
  rw [u_groups_fault]
  unfold g6Fault at q
  walk_at "x"
  refine lc_map (f := fun c => D.bl (okSign c)) mono_gN (fun c hc Q' k => ?_) ?_
  · unfold okSign at k
    walk_at "br" <;> simp_all
  walk_at "x"
  refine iteB (fun h1 => ?_) (fun h1 => ?_)
  case refine_2.refine_2 =>
    rw [if_pos h1] at q
    walk_at "x"
    exact q
  rw [if_neg (by rw [h1]; simp)] at q
  walk_at "x"
  refine iteB (fun h2 => ?_) (fun h2 => ?_)
  · rw [if_pos h2] at q
    walk_at "x"
    exact q
  rw [if_neg (by rw [h2]; simp)] at q
  walk_at "x"
  refine iteB (fun h2 => ?_) (fun h2 => ?_)
  · rw [if_pos h2] at q
    walk_at "x"
    exact q
  rw [if_neg (by rw [h2]; simp)] at q
  walk_at "x"
  refine iteB (fun h2 => ?_) (fun h2 => ?_)
  · rw [if_pos h2] at q
    walk_at "x"
    exact q
  rw [if_neg (by rw [h2]; simp)] at q
  walk_at "x"
  refine lc_map (f := fun g : Str => D.bl (decide ((g.length : Int) < 5))) mono_gN (fun c hc Q' k => ?_) ?_
  · have := pb3 c hc
    walk_at "x"
    exact k
  walk_at "x"
  refine iteB (fun h3 => ?_) (fun h3 => ?_)
  case refine_2 =>
    rw [if_pos h3] at q
    walk_at "x"
    exact q
  rw [if_neg (by rw [h3]; simp)] at q
  walk_at "x"
  refine iteB (fun h2 => ?_) (fun h2 => ?_)
  · rw [if_pos h2] at q
    walk_at "x"
    exact q
  · rw [if_neg (by rw [h2]; simp)] at q
    walk_at "x"
    exact q
end


end Dn

set_option Elab.async false
set_option linter.all false
set_option maxRecDepth 100000
set_option maxHeartbeats 4000000
set_option pp.deepTerms false
set_option pp.deepTerms.threshold 5
set_option pp.maxSteps 1500

namespace Dn
open PySem PySem.W PySem.Spec PyProof.Rows L2 TL Bits An
local macro_rules | `(tactic| walk_at "sk") => `(tactic| exact sk_lit (by decide +kernel))
local macro_rules | `(tactic| walk_at "sk") => `(tactic| (refine sk_app ?_ ?_ <;> walk_at "sk"))
local macro_rules | `(tactic| walk_at "sk") => `(tactic| assumption)
local macro_rules | `(tactic| walk_at "py") => `(tactic| repeat' first | exact pyl_nil | refine pyl_cons ?_ ?_ | exact py_int | exact py_non | exact py_bl | (refine py_str ?_; walk_at "sk") | refine py_tup ?_ | refine py_lst ?_ | (refine pyl_map fun _ _ => ?_) | refine pyl_app ?_ ?_)
local macro_rules | `(tactic| walk_at "sd") => `(tactic| first | assumption | omega | exact trivial | walk_at "sz" | exact cm_l (by omega) | exact cm_r (by omega) | exact cdivw (by omega) (by omega) | exact cshl (by omega) (by omega) (by omega) (by omega) | exact cshl_div (by omega) (by omega) (by omega) (by omega) | exact cpow10 | exact log_small (by omega) (by omega) | exact szL (by omega) | exact szL1 (by omega) | (exact szL (by simp only [List.length_cons, List.length_nil, List.length_map, List.length_append, List.length_replicate, List.length_range]; omega)) | (exact szL1 (by simp only [List.length_cons, List.length_nil, List.length_map, List.length_append, List.length_replicate, List.length_range]; omega)) | (exact szL (by simp only [Str_len_app, len_emp, len_slash]; omega)) | (refine And.intro ?_ ?_ <;> walk_at "sd") | (walk_at "py"; done) | ((simp only [↓Ss13, ↓Ss14, ↓Ss5, Ss8, ↓Ss17, ↓Ss0, ↓Ss12, ↓Ss3, Ss18, Ss2, ↓Ss10, Ss9, ↓Ss19, Ss20, Ss15, ↓Ss4, Ss7, Ss6, ↓Ss11, Ss16, ↓q_intDg, Ss1, ↓w_part_fault, w_part_fault, ↓w_quad_fault, w_quad_fault, ↓Ss21, Ss22, ↓w_quad_text, w_quad_text, ↓Ss24, Ss23, ↓Ss25, Ss26, ↓w_has_wrong_quad, w_has_wrong_quad, ↓Ss27, w_parts_of, ↓Ss28, Ss29, ↓w_groups_fault, w_groups_fault, List.length_cons, List.length_nil, List.length_map, List.length_append, List.length_replicate, List.length_range, List.length_drop, List.length_take, Nat.reduceLeDiff, Nat.reduceAdd, Int.reduceToNat, Int.reducePow]) <;> omega) | decide +kernel)
local macro_rules | `(tactic| walk_at "x") => `(tactic| simp (maxSteps := 10000000) (disch := walk_at "sd") only [↓Ss13, ↓Ss14, ↓Ss5, Ss8, ↓Ss17, ↓Ss0, ↓Ss12, ↓Ss3, Ss18, Ss2, ↓Ss10, Ss9, ↓Ss19, Ss20, Ss15, ↓Ss4, Ss7, Ss6, ↓Ss11, Ss16, ↓q_intDg, Ss1, ↓w_part_fault, w_part_fault, ↓w_quad_fault, w_quad_fault, ↓Ss21, Ss22, ↓w_quad_text, w_quad_text, ↓Ss24, Ss23, ↓Ss25, Ss26, ↓w_has_wrong_quad, w_has_wrong_quad, ↓Ss27, w_parts_of, ↓Ss28, Ss29, ↓w_groups_fault, w_groups_fault, eq_self, Int.one_mul, Int.zero_add, Int.add_zero, Int.sub_zero, and_self, and_true, true_and, Int.reduceAdd, Int.reduceSub, Int.reduceMul, Int.reduceNeg, Int.reducePow, Int.reduceToNat, Int.reduceEq, Int.reduceLT, Int.reduceLE, Int.reduceDiv, Int.reduceMod, Nat.reduceAdd, Nat.reduceSub, Nat.reduceMul, Nat.reducePow, Nat.reduceEqDiff, Nat.reduceLT, Bool.not_true, Bool.not_false, decide_true, decide_false, Bool.and_true, Bool.true_and, Bool.and_false, Bool.false_and, Bool.or_true, Bool.true_or, Bool.or_false, Bool.false_or, Bool.not_not, List.map_cons, List.map_nil, List.cons_append, List.nil_append, List.length_cons, List.length_nil, List.length_map, List.isEmpty_nil, List.isEmpty_cons, List.isEmpty_map, Option.isNone_some, Option.isNone_none, Option.isSome_some, Option.isSome_none, Option.getD_some, Option.getD_none])
local macro_rules | `(tactic| walk_at "bt") => `(tactic| repeat' (first | walk_at "x" | with_reducible refine eqD (fun _ => ?_) (fun _ => ?_) | with_reducible refine eqB' (fun _ => ?_) (fun _ => ?_)))
local macro_rules | `(tactic| walk_at "br") => `(tactic| repeat' (first | walk_at "x" | with_reducible refine iteD (fun _ => ?_) (fun _ => ?_) | with_reducible refine iteB (fun _ => ?_) (fun _ => ?_)))
local macro_rules | `(tactic| walk_at "q") => `(tactic| walk_at "x")

abbrev natsD (gs : List Nat) : D := .lst (gs.map fun g : Nat => D.int (g : Int))
theorem rep_flatD : ∀ k : Nat, (List.replicate k [D.int 0]).flatten = (List.replicate k 0).map fun g : Nat => D.int (g : Int)
  | 0 => rfl
  | k + 1 => by rw [List.replicate_succ, List.flatten_cons, rep_flatD k, List.replicate_succ]; rfl
theorem z_repf {k : Nat} : (List.replicate k [D.int 0]).flatten = (List.replicate k 0).map fun g : Nat => D.int (g : Int) := rep_flatD k
theorem z_and65535 {n : Int} (h : 0 ≤ n) : Builtin.bitAnd n 65535 = n % 65536 := and65535 h
theorem szM {xs : List D} {k : Int} (h1 : xs.length = 1) (h2 : k ≤ 1000) : xs.length * k.toNat ≤ sizeLine := by
  rw [h1]
  exact Nat.le_trans (m := 1000) (by omega) (by decide)
theorem lp_fold {gs : List Nat} {ds : List D} {a0 a1 a2 a3 a4 a5 a6 a7 a8 a10 : Sl} {S : Sv} {nx bk ct : Rh → Sv → Prop} {rt : D → Sv → Prop} {ex : Xn → Rh → Sv → Prop} (e : ds = gs.map fun g : Nat => D.int (g : Int)) (h : ∀ x, nx [a0, a1, a2, a3, a4, a5, a6, a7, a8, .sh (.int (val16 gs : Nat)), x] S) :
    Lp (EndsD.mk nx rt bk ct ex) (gN 10) (sSet (gN 9) (eBin addD (eBin mulD (rd 9) (cD (.int 65536))) (rd 10))) [a0, a1, a2, a3, a4, a5, a6, a7, a8, .sh (.int 0), a10] S (kl ds) := by
  subst e
  refine lp_st (fun x : Nat × Sl => [a0, a1, a2, a3, a4, a5, a6, a7, a8, .sh (.int (x.1 : Nat)), x.2]) (fun l r x => x.1 = val16 l) (0, a10) rfl rfl ?_ ?_
  · intro l a r x N e hi hN
    walk_at "x"
    refine hN (x.1 * 65536 + a, _) ?_
    rw [hi]
    unfold val16
    rw [List.foldl_append]
    rfl
  · intro x hi
    rw [hi]
    exact h _

def Ss30 := And.intro @z_repf @z_and65535
local macro_rules | `(tactic| walk_at "sd") => `(tactic| first | assumption | omega | exact trivial | walk_at "sz" | exact cm_l (by omega) | exact cm_r (by omega) | exact cdivw (by omega) (by omega) | exact cshl (by omega) (by omega) (by omega) (by omega) | exact cshl_div (by omega) (by omega) (by omega) (by omega) | exact cpow10 | exact log_small (by omega) (by omega) | exact szL (by omega) | exact szL1 (by omega) | (exact szL (by simp only [List.length_cons, List.length_nil, List.length_map, List.length_append, List.length_replicate, List.length_range]; omega)) | (exact szL1 (by simp only [List.length_cons, List.length_nil, List.length_map, List.length_append, List.length_replicate, List.length_range]; omega)) | (exact szL (by simp only [Str_len_app, len_emp, len_slash]; omega)) | (refine And.intro ?_ ?_ <;> walk_at "sd") | (walk_at "py"; done) | ((simp only [↓Ss13, ↓Ss14, ↓Ss5, Ss8, ↓Ss17, ↓Ss0, ↓Ss12, ↓Ss3, Ss18, Ss2, ↓Ss10, Ss9, ↓Ss19, Ss20, Ss15, ↓Ss4, Ss7, Ss6, ↓Ss11, Ss16, ↓q_intDg, Ss1, ↓w_part_fault, w_part_fault, ↓w_quad_fault, w_quad_fault, ↓Ss21, Ss22, ↓w_quad_text, w_quad_text, ↓Ss24, Ss23, ↓Ss25, Ss26, ↓w_has_wrong_quad, w_has_wrong_quad, ↓Ss27, w_parts_of, ↓Ss28, Ss29, ↓w_groups_fault, w_groups_fault, Ss30, List.length_cons, List.length_nil, List.length_map, List.length_append, List.length_replicate, List.length_range, List.length_drop, List.length_take, Nat.reduceLeDiff, Nat.reduceAdd, Int.reduceToNat, Int.reducePow]) <;> omega) | decide +kernel)
local macro_rules | `(tactic| walk_at "x") => `(tactic| simp (maxSteps := 10000000) (disch := walk_at "sd") only [↓Ss13, ↓Ss14, ↓Ss5, Ss8, ↓Ss17, ↓Ss0, ↓Ss12, ↓Ss3, Ss18, Ss2, ↓Ss10, Ss9, ↓Ss19, Ss20, Ss15, ↓Ss4, Ss7, Ss6, ↓Ss11, Ss16, ↓q_intDg, Ss1, ↓w_part_fault, w_part_fault, ↓w_quad_fault, w_quad_fault, ↓Ss21, Ss22, ↓w_quad_text, w_quad_text, ↓Ss24, Ss23, ↓Ss25, Ss26, ↓w_has_wrong_quad, w_has_wrong_quad, ↓Ss27, w_parts_of, ↓Ss28, Ss29, ↓w_groups_fault, w_groups_fault, Ss30, eq_self, Int.one_mul, Int.zero_add, Int.add_zero, Int.sub_zero, and_self, and_true, true_and, Int.reduceAdd, Int.reduceSub, Int.reduceMul, Int.reduceNeg, Int.reducePow, Int.reduceToNat, Int.reduceEq, Int.reduceLT, Int.reduceLE, Int.reduceDiv, Int.reduceMod, Nat.reduceAdd, Nat.reduceSub, Nat.reduceMul, Nat.reducePow, Nat.reduceEqDiff, Nat.reduceLT, Bool.not_true, Bool.not_false, decide_true, decide_false, Bool.and_true, Bool.true_and, Bool.and_false, Bool.false_and, Bool.or_true, Bool.true_or, Bool.or_false, Bool.false_or, Bool.not_not, List.map_cons, List.map_nil, List.cons_append, List.nil_append, List.length_cons, List.length_nil, List.length_map, List.isEmpty_nil, List.isEmpty_cons, List.isEmpty_map, Option.isNone_some, Option.isNone_none, Option.isSome_some, Option.isSome_none, Option.getD_some, Option.getD_none])
section
variable {S : Sv} {Q : D → Sv → Prop} {E : Xn → Sv → Prop}
theorem w_read_groups'bad {z why : Str} (hz : z.length ≤ 100000) (hf : g6Fault z = some why) : Rn Q E (kt (d_read_groups [.str z]) S) = E (badText why) S := by
  rw [u_read_groups]
  walk_at "x"
  rw [hf]
  simp only [optD]
  walk_at "x"
theorem w_read_groups {z : Str} (hz : z.length ≤ 100000) (hf : g6Fault z = none) (hh : ∀ g ∈ (partsOf z).ahead ++ (partsOf z).behind.getD [], hexOk g) : Rn Q E (kt (d_read_groups [.str z]) S) = Q (.int ((partsOf z).val : Nat)) S := by
  obtain ⟨pb1, pb2, pb3⟩ := parts_b z
  refine fe_rt fun Q E q => ?_
  rw [u_read_groups]
  walk_at "x"
  rw [hf]
  simp only [optD]
  walk_at "x"
  refine lc_map (f := fun g : Str => D.int (hexNum g : Nat)) mono_gN (fun c hc Q' k => ?_) ?_
  · have hc2 := List.mem_append_right (partsOf z).ahead hc
    have := pb3 c hc2
    have := hh c hc2
    walk_at "x"
    exact k
  walk_at "x"
  refine lc_map (f := fun g : Str => D.int (hexNum g : Nat)) mono_gN (fun c hc Q' k => ?_) ?_
  · have hc2 := List.mem_append_left ((partsOf z).behind.getD []) hc
    have := pb3 c hc2
    have := hh c hc2
    walk_at "x"
    exact k
  have g1 : (partsOf z).ahead.map (fun g => D.int (hexNum g : Nat)) = ((partsOf z).ahead.map hexNum).map (fun n : Nat => D.int n) := by rw [List.map_map]; rfl
  have g2 : ((partsOf z).behind.getD []).map (fun g => D.int (hexNum g : Nat)) = (((partsOf z).behind.getD []).map hexNum).map (fun n : Nat => D.int n) := by rw [List.map_map]; rfl
  rw [g1, g2]
  have fl1 : (partsOf z).first.length ≤ 100003 := by
    have hq2 : (qMore (partsOf z).quad).length ≤ 2 := by unfold qMore; split <;> simp
    unfold P6.first
    rw [List.length_append, List.length_map]
    split
    · show _ + 0 ≤ _; omega
    · omega
  have fl2 : (partsOf z).last.length ≤ 100003 := by
    have hq2 : (qMore (partsOf z).quad).length ≤ 2 := by unfold qMore; split <;> simp
    unfold P6.last
    rw [List.length_append, List.length_map]
    split
    · omega
    · show _ + 0 ≤ _; omega
  have ek : ∀ a b : Nat, ((8 : Int) - (a : Int) - (b : Int)).toNat = 8 - a - b := fun a b => by omega
  have hm := fun k => szM (xs := [D.int 0]) (k := k) rfl
  have ql := quad_len z
  have eq := parts_quad z
  unfold P6.val at q
  have fin : ∀ {a0 a1 a2 a3 a4 a5 a6 a7 a8 a10 : Sl} {ds : List D}, ds = ((partsOf z).first ++ List.replicate (8 - (partsOf z).first.length - (partsOf z).last.length) 0 ++ (partsOf z).last).map (fun g : Nat => D.int (g : Int)) → Lp (EndsD.mk (fun ρ' S' => Rs (EndsD.mk (fun _ S' => Q .non S') Q (fun _ _ => False) (fun _ _ => False) (fun x _ S' => E x S')) (ks (sRet (rd 9)) ρ' S')) Q (fun _ _ => False) (fun _ _ => False) (fun x _ S' => E x S')) (gN 10) (sSet (gN 9) (eBin addD (eBin mulD (rd 9) (cD (.int 65536))) (rd 10))) [a0, a1, a2, a3, a4, a5, a6, a7, a8, .sh (.int 0), a10] S (kl ds) := fun e => by
    refine lp_fold e fun x => ?_
    walk_at "x"
    exact q
  by_cases hq : (partsOf z).quad = Str.ofString ""
  · obtain ⟨n1, n2⟩ := P6.noq hq
    rw [n1, n2]
    walk_at "x"
    refine fin ?_
    simp only [ek]
  · have ql2 : (partsOf z).quad.length ≤ 100000 := by rw [eq]; omega
    have qf := fault_quad hf (by rw [← eq]; exact hq)
    rw [← eq] at qf
    obtain ⟨n, hn⟩ : ∃ n, n = quadVal (dots (tl (partsOf z).quad)) := ⟨_, rfl⟩
    cases hb : (partsOf z).behind with
    | none =>
      obtain ⟨q1, q2⟩ := P6.q1 hq hn (by rw [hb]; rfl)
      rw [hb] at q2 pb2
      simp only [Option.getD_none] at pb2
      simp only [optL]
      walk_at "x"
      refine fin ?_
      rw [q1, ← q2]
      simp only [List.length_append, List.length_map, List.length_cons, List.length_nil, Option.getD_none, Option.getD_some]
      simp
      omega
    | some bs =>
      obtain ⟨q1, q2⟩ := P6.q2 hq hn (by rw [hb]; rfl)
      rw [hb] at q1 pb2
      simp only [Option.getD_some] at pb2
      simp only [optL]
      walk_at "x"
      refine fin ?_
      rw [q1, ← q2]
      simp only [List.length_append, List.length_map, List.length_cons, List.length_nil, Option.getD_none, Option.getD_some]
      simp
      congr 2
      · omega
      · rw [hn]
end

def Ss31 := And.intro @w_read_groups'bad @w_read_groups
def Ss32 := And.intro @w_read_groups'bad @w_read_groups
end Dn

set_option Elab.async false
set_option linter.all false
set_option maxRecDepth 100000
set_option maxHeartbeats 4000000
set_option pp.deepTerms false
set_option pp.deepTerms.threshold 5
set_option pp.maxSteps 1500

namespace Dn
open PySem PySem.W PySem.Spec PyProof.Rows L2 TL Bits An
theorem cutD_take (xs : List D) (b : Nat) : cutD xs none (some (b : Int)) = xs.take b := by
  unfold cutD
  rw [HT.sIx_none, HT.sIx_nat, List.drop_zero, Nat.sub_zero]
  rcases Nat.le_total b xs.length with h | h
  · rw [Nat.min_eq_left h]
  · rw [Nat.min_eq_right h, List.take_length, List.take_of_length_le h]
theorem cutD_drop (xs : List D) (b : Nat) : cutD xs (some (b : Int)) none = xs.drop b := by
  unfold cutD
  rw [HT.sIx_none, HT.sIx_nat]
  rcases Nat.le_total b xs.length with h | h
  · rw [Nat.min_eq_left h]
    exact List.take_of_length_le (by rw [List.length_drop]; omega)
  · rw [Nat.min_eq_right h, List.drop_length, List.drop_eq_nil_iff.mpr h]; simp
theorem z_cutT {α : Type} {f : α → D} {xs : List α} {b : Nat} : cutD (xs.map f) none (some (b : Int)) = (xs.take b).map f := by rw [cutD_take, List.map_take]
theorem z_cutR {α : Type} {f : α → D} {xs : List α} {b c : Nat} : cutD (xs.map f) (some ((b : Int) + (c : Int))) none = (xs.drop (b + c)).map f := by
  rw [show ((b : Int) + (c : Int)) = ((b + c : Nat) : Int) by omega, cutD_drop, List.map_drop]

def Ss33 := And.intro @z_cutT @z_cutR
local macro_rules | `(tactic| walk_at "sk") => `(tactic| exact sk_lit (by decide +kernel))
local macro_rules | `(tactic| walk_at "sk") => `(tactic| (refine sk_app ?_ ?_ <;> walk_at "sk"))
local macro_rules | `(tactic| walk_at "sk") => `(tactic| assumption)
local macro_rules | `(tactic| walk_at "py") => `(tactic| repeat' first | exact pyl_nil | refine pyl_cons ?_ ?_ | exact py_int | exact py_non | exact py_bl | (refine py_str ?_; walk_at "sk") | refine py_tup ?_ | refine py_lst ?_ | (refine pyl_map fun _ _ => ?_) | refine pyl_app ?_ ?_)
local macro_rules | `(tactic| walk_at "sd") => `(tactic| first | assumption | omega | exact trivial | walk_at "sz" | exact cm_l (by omega) | exact cm_r (by omega) | exact cdivw (by omega) (by omega) | exact cshl (by omega) (by omega) (by omega) (by omega) | exact cshl_div (by omega) (by omega) (by omega) (by omega) | exact cpow10 | exact log_small (by omega) (by omega) | exact szL (by omega) | exact szL1 (by omega) | (exact szL (by simp only [List.length_cons, List.length_nil, List.length_map, List.length_append, List.length_replicate, List.length_range]; omega)) | (exact szL1 (by simp only [List.length_cons, List.length_nil, List.length_map, List.length_append, List.length_replicate, List.length_range]; omega)) | (exact szL (by simp only [Str_len_app, len_emp, len_slash]; omega)) | (refine And.intro ?_ ?_ <;> walk_at "sd") | (walk_at "py"; done) | ((simp only [↓Ss13, ↓Ss14, ↓Ss5, Ss8, ↓Ss17, ↓Ss0, ↓Ss12, ↓Ss3, Ss18, Ss2, ↓Ss10, Ss9, ↓Ss19, Ss20, Ss15, ↓Ss4, Ss7, Ss6, ↓Ss11, Ss16, ↓q_intDg, Ss1, ↓w_part_fault, w_part_fault, ↓w_quad_fault, w_quad_fault, ↓Ss21, Ss22, ↓w_quad_text, w_quad_text, ↓Ss24, Ss23, ↓Ss25, Ss26, ↓w_has_wrong_quad, w_has_wrong_quad, ↓Ss27, w_parts_of, ↓Ss28, Ss29, ↓w_groups_fault, w_groups_fault, Ss30, ↓Ss31, Ss32, Ss33, List.length_cons, List.length_nil, List.length_map, List.length_append, List.length_replicate, List.length_range, List.length_drop, List.length_take, Nat.reduceLeDiff, Nat.reduceAdd, Int.reduceToNat, Int.reducePow]) <;> omega) | decide +kernel)
local macro_rules | `(tactic| walk_at "x") => `(tactic| simp (maxSteps := 10000000) (disch := walk_at "sd") only [↓Ss13, ↓Ss14, ↓Ss5, Ss8, ↓Ss17, ↓Ss0, ↓Ss12, ↓Ss3, Ss18, Ss2, ↓Ss10, Ss9, ↓Ss19, Ss20, Ss15, ↓Ss4, Ss7, Ss6, ↓Ss11, Ss16, ↓q_intDg, Ss1, ↓w_part_fault, w_part_fault, ↓w_quad_fault, w_quad_fault, ↓Ss21, Ss22, ↓w_quad_text, w_quad_text, ↓Ss24, Ss23, ↓Ss25, Ss26, ↓w_has_wrong_quad, w_has_wrong_quad, ↓Ss27, w_parts_of, ↓Ss28, Ss29, ↓w_groups_fault, w_groups_fault, Ss30, ↓Ss31, Ss32, Ss33, eq_self, Int.one_mul, Int.zero_add, Int.add_zero, Int.sub_zero, and_self, and_true, true_and, Int.reduceAdd, Int.reduceSub, Int.reduceMul, Int.reduceNeg, Int.reducePow, Int.reduceToNat, Int.reduceEq, Int.reduceLT, Int.reduceLE, Int.reduceDiv, Int.reduceMod, Nat.reduceAdd, Nat.reduceSub, Nat.reduceMul, Nat.reducePow, Nat.reduceEqDiff, Nat.reduceLT, Bool.not_true, Bool.not_false, decide_true, decide_false, Bool.and_true, Bool.true_and, Bool.and_false, Bool.false_and, Bool.or_true, Bool.true_or, Bool.or_false, Bool.false_or, Bool.not_not, List.map_cons, List.map_nil, List.cons_append, List.nil_append, List.length_cons, List.length_nil, List.length_map, List.isEmpty_nil, List.isEmpty_cons, List.isEmpty_map, Option.isNone_some, Option.isNone_none, Option.isSome_some, Option.isSome_none, Option.getD_some, Option.getD_none])
local macro_rules | `(tactic| walk_at "bt") => `(tactic| repeat' (first | walk_at "x" | with_reducible refine eqD (fun _ => ?_) (fun _ => ?_) | with_reducible refine eqB' (fun _ => ?_) (fun _ => ?_)))
local macro_rules | `(tactic| walk_at "br") => `(tactic| repeat' (first | walk_at "x" | with_reducible refine iteD (fun _ => ?_) (fun _ => ?_) | with_reducible refine iteB (fun _ => ?_) (fun _ => ?_)))
local macro_rules | `(tactic| walk_at "q") => `(tactic| walk_at "x")

section
variable {S : Sv} {Q : D → Sv → Prop} {E : Xn → Sv → Prop}
theorem w_group_numbers {n : Int} (h0 : 0 ≤ n) : Rn Q E (kt (d_group_numbers [.int n]) S) = Q (natsD (An.gN n)) S := by
  refine fe_rt fun Q E q => ?_
  rw [u_group_numbers]
  walk_at "x"
  refine lc_map (f := fun i : Nat => D.int ((n / 2 ^ (112 - 16 * i) % 65536).toNat : Nat)) mono_gN (fun i hi Q' k => ?_) ?_
  · have hi8 : i < 8 := List.mem_range.mp hi
    have h1 : 0 ≤ n / 2 ^ (112 - 16 * (i : Int)).toNat := Int.ediv_nonneg h0 (Int.le_of_lt (Int.pow_pos (by decide)))
    walk_at "x"
    rw [show (112 - 16 * (i : Int)).toNat = 112 - 16 * i by omega]
    rw [Int.toNat_of_nonneg (by omega)] at k
    exact k
  unfold natsD at q
  rw [gN_range, List.map_map] at q
  exact q
theorem w_longest_run {gs : List Nat} : Rn Q E (kt (d_longest_run [natsD gs]) S) = Q (.tup [.int ((lr gs).1 : Nat), .int ((lr gs).2 : Nat)]) S := by
  refine fe_rt fun Q E q => ?_
  rw [u_longest_run]
  walk_at "x"
  refine lp_enum (fun x : Nat × Nat × Nat × Sl × Sl => [.sh (natsD gs), .sh (.int (x.1 : Nat)), .sh (.int (x.2.1 : Nat)), .sh (.int (x.2.2.1 : Nat)), x.2.2.2.1, x.2.2.2.2]) (fun l r x => x.2.2.1 ≤ l.length ∧ lrGo l.length x.1 x.2.1 x.2.2.1 (zs r) = lr gs) (0, 0, 0, .un, .un) rfl ⟨Nat.le_refl _, rfl⟩ ?_ ?_
  · rintro l g r ⟨best, many, beg, x4, x5⟩ N e ⟨hb, hg⟩ hN
    simp only at hb hg
    have ez : zs (g :: r) = decide (g = 0) :: zs r := rfl
    rw [ez] at hg
    unfold lrGo at hg
    walk_at "x"
    refine iteD (fun h => ?_) (fun h => ?_)
    · have g0 : g = 0 := by omega
      rw [if_neg (by simp [g0])] at hg
      walk_at "x"
      refine iteD (fun h => ?_) (fun h => ?_)
      · rw [if_pos (by omega)] at hg
        walk_at "x"
        have ec : (l.length : Int) + 1 - beg = ((l.length + 1 - beg : Nat) : Int) := by omega
        rw [ec]
        exact hN (_, _, _, _, _) ⟨by simp; omega, by simpa using hg⟩
      · rw [if_neg (by omega)] at hg
        walk_at "x"
        exact hN (_, _, _, _, _) ⟨by simp; omega, by simpa using hg⟩
    · have g0 : ¬ g = 0 := by omega
      rw [if_pos (by simp [g0])] at hg
      walk_at "x"
      have ec : (l.length : Int) + 1 = ((l.length + 1 : Nat) : Int) := by omega
      rw [ec]
      exact hN (_, _, _, _, _) ⟨by simp, by simpa using hg⟩
  · rintro ⟨best, many, beg, x4, x5⟩ ⟨hb, hg⟩
    have hg : (best, many) = lr gs := hg
    rw [← hg] at q
    walk_at "x"
    exact q

def Ss34 := And.intro @w_group_numbers @w_longest_run
def Ss35 := And.intro @w_group_numbers @w_longest_run
local macro_rules | `(tactic| walk_at "sd") => `(tactic| first | assumption | omega | exact trivial | walk_at "sz" | exact cm_l (by omega) | exact cm_r (by omega) | exact cdivw (by omega) (by omega) | exact cshl (by omega) (by omega) (by omega) (by omega) | exact cshl_div (by omega) (by omega) (by omega) (by omega) | exact cpow10 | exact log_small (by omega) (by omega) | exact szL (by omega) | exact szL1 (by omega) | (exact szL (by simp only [List.length_cons, List.length_nil, List.length_map, List.length_append, List.length_replicate, List.length_range]; omega)) | (exact szL1 (by simp only [List.length_cons, List.length_nil, List.length_map, List.length_append, List.length_replicate, List.length_range]; omega)) | (exact szL (by simp only [Str_len_app, len_emp, len_slash]; omega)) | (refine And.intro ?_ ?_ <;> walk_at "sd") | (walk_at "py"; done) | ((simp only [↓Ss13, ↓Ss14, ↓Ss5, Ss8, ↓Ss17, ↓Ss0, ↓Ss12, ↓Ss3, Ss18, Ss2, ↓Ss10, Ss9, ↓Ss19, Ss20, Ss15, ↓Ss4, Ss7, Ss6, ↓Ss11, Ss16, ↓q_intDg, Ss1, ↓w_part_fault, w_part_fault, ↓w_quad_fault, w_quad_fault, ↓Ss21, Ss22, ↓w_quad_text, w_quad_text, ↓Ss24, Ss23, ↓Ss25, Ss26, ↓w_has_wrong_quad, w_has_wrong_quad, ↓Ss27, w_parts_of, ↓Ss28, Ss29, ↓w_groups_fault, w_groups_fault, Ss30, ↓Ss31, Ss32, Ss33, ↓Ss34, Ss35, List.length_cons, List.length_nil, List.length_map, List.length_append, List.length_replicate, List.length_range, List.length_drop, List.length_take, Nat.reduceLeDiff, Nat.reduceAdd, Int.reduceToNat, Int.reducePow]) <;> omega) | decide +kernel)
local macro_rules | `(tactic| walk_at "x") => `(tactic| simp (maxSteps := 10000000) (disch := walk_at "sd") only [↓Ss13, ↓Ss14, ↓Ss5, Ss8, ↓Ss17, ↓Ss0, ↓Ss12, ↓Ss3, Ss18, Ss2, ↓Ss10, Ss9, ↓Ss19, Ss20, Ss15, ↓Ss4, Ss7, Ss6, ↓Ss11, Ss16, ↓q_intDg, Ss1, ↓w_part_fault, w_part_fault, ↓w_quad_fault, w_quad_fault, ↓Ss21, Ss22, ↓w_quad_text, w_quad_text, ↓Ss24, Ss23, ↓Ss25, Ss26, ↓w_has_wrong_quad, w_has_wrong_quad, ↓Ss27, w_parts_of, ↓Ss28, Ss29, ↓w_groups_fault, w_groups_fault, Ss30, ↓Ss31, Ss32, Ss33, ↓Ss34, Ss35, eq_self, Int.one_mul, Int.zero_add, Int.add_zero, Int.sub_zero, and_self, and_true, true_and, Int.reduceAdd, Int.reduceSub, Int.reduceMul, Int.reduceNeg, Int.reducePow, Int.reduceToNat, Int.reduceEq, Int.reduceLT, Int.reduceLE, Int.reduceDiv, Int.reduceMod, Nat.reduceAdd, Nat.reduceSub, Nat.reduceMul, Nat.reducePow, Nat.reduceEqDiff, Nat.reduceLT, Bool.not_true, Bool.not_false, decide_true, decide_false, Bool.and_true, Bool.true_and, Bool.and_false, Bool.false_and, Bool.or_true, Bool.true_or, Bool.or_false, Bool.false_or, Bool.not_not, List.map_cons, List.map_nil, List.cons_append, List.nil_append, List.length_cons, List.length_nil, List.length_map, List.isEmpty_nil, List.isEmpty_cons, List.isEmpty_map, Option.isNone_some, Option.isNone_none, Option.isSome_some, Option.isSome_none, Option.getD_some, Option.getD_none])
theorem w_groups_text {n : Int} (h0 : 0 ≤ n) : Rn Q E (kt (d_groups_text [.int n]) S) = Q (.str (g6S n)) S := by
  refine fe_rt fun Q E q => ?_
  rw [u_groups_text]
  have lg := gN_len n
  walk_at "x"
  refine lc_map (f := fun g : Nat => D.str (hexS g)) mono_gN (fun g hg Q' k => ?_) ?_
  · have hz : (hexS g).length ≤ sizeLine := sizeL (Nat.le_trans (hexS_len (gN_b n g hg)) (by decide))
    walk_at "x"
    exact k
  have e3 : (An.gN n).map (fun g => D.str (hexS g)) = ((An.gN n).map hexS).map D.str := by rw [List.map_map]; rfl
  rw [e3]
  unfold g6S g6T at q
  have c2 : ("::" : Str).length = 2 := by decide +kernel
  have j0 : (((An.gN n).map hexS).map fun x => x.length).sum + ((An.gN n).map hexS).length * (":" : Str).length ≤ 16777216 := join_sz colon1 (fa_map fun g hg => hexS_len (gN_b n g hg)) (by decide) (by rw [List.length_map, gN_len]; decide)
  have j1 : ∀ b, ((((An.gN n).map hexS).take b).map fun x => x.length).sum + (((An.gN n).map hexS).take b).length * (":" : Str).length ≤ 16777216 := fun b => join_sz (k := 4) colon1 (fun x hx => by obtain ⟨g, hg, rfl⟩ := List.mem_map.mp (List.mem_of_mem_take hx); exact hexS_len (gN_b n g hg)) (by decide) (by rw [List.length_take, List.length_map, gN_len]; omega)
  have j2 : ∀ b, ((((An.gN n).map hexS).drop b).map fun x => x.length).sum + (((An.gN n).map hexS).drop b).length * (":" : Str).length ≤ 16777216 := fun b => join_sz (k := 4) colon1 (fun x hx => by obtain ⟨g, hg, rfl⟩ := List.mem_map.mp (List.mem_of_mem_drop hx); exact hexS_len (gN_b n g hg)) (by decide) (by rw [List.length_drop, List.length_map, gN_len]; omega)
  have k1 : ∀ b, (Txt.join (":" : Str) (((An.gN n).map hexS).take b)).length ≤ 40 := fun b => Nat.le_trans (join_len (k := 4) (fun x hx => by obtain ⟨g, hg, rfl⟩ := List.mem_map.mp (List.mem_of_mem_take hx); exact hexS_len (gN_b n g hg))) (Nat.le_trans (Nat.mul_le_mul (show _ ≤ 8 by rw [List.length_take, List.length_map, gN_len]; omega) (show _ ≤ 5 by decide +kernel)) (by decide))
  have k2 : ∀ b, (Txt.join (":" : Str) (((An.gN n).map hexS).drop b)).length ≤ 40 := fun b => Nat.le_trans (join_len (k := 4) (fun x hx => by obtain ⟨g, hg, rfl⟩ := List.mem_map.mp (List.mem_of_mem_drop hx); exact hexS_len (gN_b n g hg))) (Nat.le_trans (Nat.mul_le_mul (show _ ≤ 8 by rw [List.length_drop, List.length_map, gN_len]; omega) (show _ ≤ 5 by decide +kernel)) (by decide))
  have k3 : ∀ b, (Txt.join (":" : Str) (((An.gN n).map hexS).take b)).length + ("::" : Str).length ≤ sizeLine := fun b => sizeL (by have := k1 b; omega)
  have k4 : ∀ b c, (Txt.join (":" : Str) (((An.gN n).map hexS).take b) ++ ("::" : Str)).length + (Txt.join (":" : Str) (((An.gN n).map hexS).drop c)).length ≤ sizeLine := fun b c => sizeL (by rw [Str_len_app]; have := k1 b; have := k2 c; omega)
  walk_at "x"
  refine iteD (fun h => ?_) (fun h => ?_)
  · rw [if_pos (by omega)] at q
    walk_at "x"
    exact q
  · rw [if_neg (by omega), List.map_take, List.map_drop] at q
    have j1' := j1 (lr (An.gN n)).1
    have j2' := j2 ((lr (An.gN n)).1 + (lr (An.gN n)).2)
    have k3' := k3 (lr (An.gN n)).1
    have k4' := k4 (lr (An.gN n)).1 ((lr (An.gN n)).1 + (lr (An.gN n)).2)
    walk_at "x"
    exact q
end


end Dn

set_option Elab.async false
set_option linter.all false
set_option maxRecDepth 100000
set_option maxHeartbeats 4000000
set_option pp.deepTerms false
set_option pp.deepTerms.threshold 5
set_option pp.maxSteps 1500

namespace Dn
open PySem PySem.W PySem.Spec PyProof.Rows L2 TL Bits An
theorem z_wv4 : Wv 4 = 32 := rfl
theorem z_wv6 : Wv 6 = 128 := rfl
theorem pos2 (k : Nat) : (0 : Int) < 2 ^ k := Int.pow_pos (by decide)
theorem p2_le {a b : Nat} (h : a ≤ b) : (2 : Int) ^ a ≤ 2 ^ b := by
  have : (2 : Int) ^ b = 2 ^ a * 2 ^ (b - a) := by rw [← Int.pow_add, Nat.add_sub_cancel' h]
  rw [this]
  have h1 := pos2 a
  have h2 := pos2 (b - a)
  have : (2 : Int) ^ a * 1 ≤ 2 ^ a * 2 ^ (b - a) := Int.mul_le_mul_of_nonneg_left (by omega) (by omega)
  omega
theorem low_le {n p W : Int} (h : 0 ≤ n) : 0 ≤ lowE n p W ∧ lowE n p W ≤ n := by
  unfold lowE
  have hp := pos2 (W - p).toNat
  have h1 := Int.ediv_nonneg h (Int.le_of_lt hp)
  have h2 := Int.ediv_mul_le n (Int.ne_of_gt hp)
  exact ⟨Int.mul_nonneg h1 (Int.le_of_lt hp), h2⟩
section
variable {S : Sv} {Q : D → Sv → Prop} {E : Xn → Sv → Prop} {n p W : Int}

def Ss36 := And.intro @z_wv4 @z_wv6
end


end Dn

set_option Elab.async false
set_option linter.all false
set_option maxRecDepth 100000
set_option maxHeartbeats 4000000
set_option pp.deepTerms false
set_option pp.deepTerms.threshold 5
set_option pp.maxSteps 1500

namespace Dn
open PySem PySem.W PySem.Spec PyProof.Rows L2 TL Bits An
local macro_rules | `(tactic| walk_at "sk") => `(tactic| exact sk_lit (by decide +kernel))
local macro_rules | `(tactic| walk_at "sk") => `(tactic| (refine sk_app ?_ ?_ <;> walk_at "sk"))
local macro_rules | `(tactic| walk_at "sk") => `(tactic| assumption)
local macro_rules | `(tactic| walk_at "py") => `(tactic| repeat' first | exact pyl_nil | refine pyl_cons ?_ ?_ | exact py_int | exact py_non | exact py_bl | (refine py_str ?_; walk_at "sk") | refine py_tup ?_ | refine py_lst ?_ | (refine pyl_map fun _ _ => ?_) | refine pyl_app ?_ ?_)
local macro_rules | `(tactic| walk_at "sd") => `(tactic| first | assumption | omega | exact trivial | walk_at "sz" | exact cm_l (by omega) | exact cm_r (by omega) | exact cdivw (by omega) (by omega) | exact cshl (by omega) (by omega) (by omega) (by omega) | exact cshl_div (by omega) (by omega) (by omega) (by omega) | exact cpow10 | exact log_small (by omega) (by omega) | exact szL (by omega) | exact szL1 (by omega) | (exact szL (by simp only [List.length_cons, List.length_nil, List.length_map, List.length_append, List.length_replicate, List.length_range]; omega)) | (exact szL1 (by simp only [List.length_cons, List.length_nil, List.length_map, List.length_append, List.length_replicate, List.length_range]; omega)) | (exact szL (by simp only [Str_len_app, len_emp, len_slash]; omega)) | (refine And.intro ?_ ?_ <;> walk_at "sd") | (walk_at "py"; done) | ((simp only [↓Ss13, ↓Ss14, ↓Ss5, Ss8, ↓Ss17, ↓Ss0, ↓Ss12, ↓Ss3, Ss18, Ss2, ↓Ss10, Ss9, ↓Ss19, Ss20, Ss15, ↓Ss4, Ss7, Ss6, ↓Ss11, Ss16, ↓q_intDg, Ss1, ↓w_part_fault, w_part_fault, ↓w_quad_fault, w_quad_fault, ↓Ss21, Ss22, ↓w_quad_text, w_quad_text, ↓Ss24, Ss23, ↓Ss25, Ss26, ↓w_has_wrong_quad, w_has_wrong_quad, ↓Ss27, w_parts_of, ↓Ss28, Ss29, ↓w_groups_fault, w_groups_fault, Ss30, ↓Ss31, Ss32, Ss33, ↓Ss34, Ss35, ↓w_groups_text, w_groups_text, Ss36, ↓u_is_integer, ↓u_is_from, ↓u_is_integer, ↓u_is_from, List.length_cons, List.length_nil, List.length_map, List.length_append, List.length_replicate, List.length_range, List.length_drop, List.length_take, Nat.reduceLeDiff, Nat.reduceAdd, Int.reduceToNat, Int.reducePow]) <;> omega) | decide +kernel)
local macro_rules | `(tactic| walk_at "x") => `(tactic| simp (maxSteps := 10000000) (disch := walk_at "sd") only [↓Ss13, ↓Ss14, ↓Ss5, Ss8, ↓Ss17, ↓Ss0, ↓Ss12, ↓Ss3, Ss18, Ss2, ↓Ss10, Ss9, ↓Ss19, Ss20, Ss15, ↓Ss4, Ss7, Ss6, ↓Ss11, Ss16, ↓q_intDg, Ss1, ↓w_part_fault, w_part_fault, ↓w_quad_fault, w_quad_fault, ↓Ss21, Ss22, ↓w_quad_text, w_quad_text, ↓Ss24, Ss23, ↓Ss25, Ss26, ↓w_has_wrong_quad, w_has_wrong_quad, ↓Ss27, w_parts_of, ↓Ss28, Ss29, ↓w_groups_fault, w_groups_fault, Ss30, ↓Ss31, Ss32, Ss33, ↓Ss34, Ss35, ↓w_groups_text, w_groups_text, Ss36, ↓u_is_integer, ↓u_is_from, eq_self, Int.one_mul, Int.zero_add, Int.add_zero, Int.sub_zero, and_self, and_true, true_and, Int.reduceAdd, Int.reduceSub, Int.reduceMul, Int.reduceNeg, Int.reducePow, Int.reduceToNat, Int.reduceEq, Int.reduceLT, Int.reduceLE, Int.reduceDiv, Int.reduceMod, Nat.reduceAdd, Nat.reduceSub, Nat.reduceMul, Nat.reducePow, Nat.reduceEqDiff, Nat.reduceLT, Bool.not_true, Bool.not_false, decide_true, decide_false, Bool.and_true, Bool.true_and, Bool.and_false, Bool.false_and, Bool.or_true, Bool.true_or, Bool.or_false, Bool.false_or, Bool.not_not, List.map_cons, List.map_nil, List.cons_append, List.nil_append, List.length_cons, List.length_nil, List.length_map, List.isEmpty_nil, List.isEmpty_cons, List.isEmpty_map, Option.isNone_some, Option.isNone_none, Option.isSome_some, Option.isSome_none, Option.getD_some, Option.getD_none])
local macro_rules | `(tactic| walk_at "bt") => `(tactic| repeat' (first | walk_at "x" | with_reducible refine eqD (fun _ => ?_) (fun _ => ?_) | with_reducible refine eqB' (fun _ => ?_) (fun _ => ?_)))
local macro_rules | `(tactic| walk_at "br") => `(tactic| repeat' (first | walk_at "x" | with_reducible refine iteD (fun _ => ?_) (fun _ => ?_) | with_reducible refine iteB (fun _ => ?_) (fun _ => ?_)))
local macro_rules | `(tactic| walk_at "q") => `(tactic| walk_at "x")

def Nv (v n : Int) : Prop := 0 ≤ n ∧ n < 2 ^ (Wv v).toNat
theorem nv4 {n : Int} (h0 : 0 ≤ n) (h1 : n < 4294967296) : Nv 4 n := ⟨h0, by rw [wv4]; exact h1⟩
theorem nv6 {n : Int} (h0 : 0 ≤ n) (h1 : n < 340282366920938463463374607431768211456) : Nv 6 n := ⟨h0, by rw [wv6]; exact h1⟩
theorem Nv.lo {v n : Int} (h : Nv v n) : 0 ≤ n := h.1
theorem Nv.hi4 {n : Int} (h : Nv 4 n) : n < 4294967296 := h.2
theorem Nv.hi6 {n : Int} (h : Nv 6 n) : n < 340282366920938463463374607431768211456 := h.2
theorem Nv.low {v n p : Int} (h : Nv v n) : Nv v (lowE n p (Wv v)) := by
  have := low_le (p := p) (W := Wv v) h.1
  exact ⟨this.1, Int.lt_of_le_of_lt this.2 h.2⟩
theorem wv_or (v : Int) : Wv v = 32 ∨ Wv v = 128 := by unfold Wv; split <;> simp
theorem Nv.big {v n : Int} (h : Nv v n) : n < 2 ^ 200 := by
  have := h.2
  rcases wv_or v with e | e
  · rw [e] at this; exact Int.lt_trans this (by decide)
  · rw [e] at this; exact Int.lt_trans this (by decide)
def txt (v n : Int) : Str := if v = 4 then quadS n else g6S n
theorem txt4 {n : Int} : txt 4 n = quadS n := rfl
theorem txt6 {n : Int} : txt 6 n = g6S n := rfl
theorem txt_len {v n : Int} (h : Nv v n) : (txt v n).length ≤ 100 := by
  unfold txt
  split
  · exact Nat.le_trans (quadS_len h.1) (by decide)
  · exact Nat.le_trans (g6S_len n) (by decide)
def Rd (v : Int) (z : Str) (n : Int) : Prop := (z.length ≤ 100000 ∧ Nv v n) ∧ if v = 4 then quadFault (tl z) = none ∧ n = quadVal (dots (tl z)) else g6Fault z = none ∧ (∀ g ∈ (partsOf z).ahead ++ (partsOf z).behind.getD [], hexOk g) ∧ n = (partsOf z).val
def Bad (v : Int) (z why : Str) : Prop := z.length ≤ 100000 ∧ if v = 4 then quadFault (tl z) = some why else g6Fault z = some why
def byN (b : Array UInt8) : Int := KFB.value (KBw.bInts b)
section
variable {S : Sv} {Q : D → Sv → Prop} {E : Xn → Sv → Prop} {n p W v : Int} {z why : Str} {b : Array UInt8}
theorem w_number_of'i (hW0 : 0 ≤ W) (hW1 : W ≤ 199) (h0 : 0 ≤ n) (h1 : n < 2 ^ W.toNat) : Rn Q E (kt (d_number_of [.int n, .int W]) S) = Q (.int n) S := by
  have := pos2 W.toNat
  rw [u_number_of]
  walk_at "x"
theorem w_number_of'f (hW0 : 0 ≤ W) (hW1 : W ≤ 199) (h : ¬ (0 ≤ n ∧ n < 2 ^ W.toNat)) : Rn Q E (kt (d_number_of [.int n, .int W]) S) = E (badNumber (.int n)) S := by
  have := pos2 W.toNat
  rw [u_number_of]
  by_cases h0 : 0 ≤ n
  · walk_at "x"
  · walk_at "x"
theorem w_number_of's4 (h : Rd 4 z n) : Rn Q E (kt (d_number_of [.str z, .int 32]) S) = Q (.int n) S := by
  obtain ⟨⟨hz, _⟩, h1, h2⟩ := h
  rw [u_number_of]
  walk_at "x"
  rw [h2]
theorem w_number_of's6 (h : Rd 6 z n) : Rn Q E (kt (d_number_of [.str z, .int 128]) S) = Q (.int n) S := by
  obtain ⟨⟨hz, _⟩, h1, h3, h2⟩ := h
  rw [u_number_of]
  walk_at "x"
  rw [h2]
theorem w_number_of'b4 (h : Bad 4 z why) : Rn Q E (kt (d_number_of [.str z, .int 32]) S) = E (badText why) S := by
  obtain ⟨hz, h1⟩ := h
  replace h1 : quadFault (tl z) = some why := h1
  rw [u_number_of]
  walk_at "x"
theorem w_number_of'b6 (h : Bad 6 z why) : Rn Q E (kt (d_number_of [.str z, .int 128]) S) = E (badText why) S := by
  obtain ⟨hz, h1⟩ := h
  replace h1 : g6Fault z = some why := h1
  rw [u_number_of]
  walk_at "x"
theorem w_number_of'y (hb : b.size ≤ 1000) (h : (b.size : Int) = W / 8) : Rn Q E (kt (d_number_of [.byt b, .int W]) S) = Q (.int (byN b)) S := by
  rw [u_number_of]
  walk_at "x"
  rfl
theorem w_number_of'z (hb : b.size ≤ 1000) (h : ¬ (b.size : Int) = W / 8) : Rn Q E (kt (d_number_of [.byt b, .int W]) S) = E (badBytes (.int b.size)) S := by
  rw [u_number_of]
  walk_at "x"
end

def Ss38 := And.intro (And.intro (And.intro @w_number_of'i @w_number_of'f) (And.intro @w_number_of's4 @w_number_of's6)) (And.intro (And.intro @w_number_of'b4 @w_number_of'b6) (And.intro @w_number_of'y @w_number_of'z))
def Ss37 := And.intro (And.intro (And.intro @w_number_of'i @w_number_of'f) (And.intro @w_number_of's4 @w_number_of's6)) (And.intro (And.intro @w_number_of'b4 @w_number_of'b6) (And.intro @w_number_of'y @w_number_of'z))
end Dn

set_option Elab.async false
set_option linter.all false
set_option maxRecDepth 100000
set_option maxHeartbeats 4000000
set_option pp.deepTerms false
set_option pp.deepTerms.threshold 5
set_option pp.maxSteps 1500

namespace Dn
open PySem PySem.W PySem.Spec PyProof.Rows L2 TL Bits An
local macro_rules | `(tactic| walk_at "sk") => `(tactic| exact sk_lit (by decide +kernel))
local macro_rules | `(tactic| walk_at "sk") => `(tactic| (refine sk_app ?_ ?_ <;> walk_at "sk"))
local macro_rules | `(tactic| walk_at "sk") => `(tactic| assumption)
local macro_rules | `(tactic| walk_at "py") => `(tactic| repeat' first | exact pyl_nil | refine pyl_cons ?_ ?_ | exact py_int | exact py_non | exact py_bl | (refine py_str ?_; walk_at "sk") | refine py_tup ?_ | refine py_lst ?_ | (refine pyl_map fun _ _ => ?_) | refine pyl_app ?_ ?_)
local macro_rules | `(tactic| walk_at "sd") => `(tactic| first | assumption | omega | exact trivial | walk_at "sz" | exact cm_l (by omega) | exact cm_r (by omega) | exact cdivw (by omega) (by omega) | exact cshl (by omega) (by omega) (by omega) (by omega) | exact cshl_div (by omega) (by omega) (by omega) (by omega) | exact cpow10 | exact log_small (by omega) (by omega) | exact szL (by omega) | exact szL1 (by omega) | (exact szL (by simp only [List.length_cons, List.length_nil, List.length_map, List.length_append, List.length_replicate, List.length_range]; omega)) | (exact szL1 (by simp only [List.length_cons, List.length_nil, List.length_map, List.length_append, List.length_replicate, List.length_range]; omega)) | (exact szL (by simp only [Str_len_app, len_emp, len_slash]; omega)) | (refine And.intro ?_ ?_ <;> walk_at "sd") | (walk_at "py"; done) | ((simp only [↓Ss13, ↓Ss14, ↓Ss5, Ss8, ↓Ss17, ↓Ss0, ↓Ss12, ↓Ss3, Ss18, Ss2, ↓Ss10, Ss9, ↓Ss19, Ss20, Ss15, ↓Ss4, Ss7, Ss6, ↓Ss11, Ss16, ↓q_intDg, Ss1, ↓w_part_fault, w_part_fault, ↓w_quad_fault, w_quad_fault, ↓Ss21, Ss22, ↓w_quad_text, w_quad_text, ↓Ss24, Ss23, ↓Ss25, Ss26, ↓w_has_wrong_quad, w_has_wrong_quad, ↓Ss27, w_parts_of, ↓Ss28, Ss29, ↓w_groups_fault, w_groups_fault, Ss30, ↓Ss31, Ss32, Ss33, ↓Ss34, Ss35, ↓w_groups_text, w_groups_text, Ss36, ↓u_is_integer, ↓u_is_from, ↓Ss38, Ss37, ↓u_is_integer, ↓u_is_from, ↓u_is_integer, ↓u_is_from, List.length_cons, List.length_nil, List.length_map, List.length_append, List.length_replicate, List.length_range, List.length_drop, List.length_take, Nat.reduceLeDiff, Nat.reduceAdd, Int.reduceToNat, Int.reducePow]) <;> omega) | decide +kernel)
local macro_rules | `(tactic| walk_at "x") => `(tactic| simp (maxSteps := 10000000) (disch := walk_at "sd") only [↓Ss13, ↓Ss14, ↓Ss5, Ss8, ↓Ss17, ↓Ss0, ↓Ss12, ↓Ss3, Ss18, Ss2, ↓Ss10, Ss9, ↓Ss19, Ss20, Ss15, ↓Ss4, Ss7, Ss6, ↓Ss11, Ss16, ↓q_intDg, Ss1, ↓w_part_fault, w_part_fault, ↓w_quad_fault, w_quad_fault, ↓Ss21, Ss22, ↓w_quad_text, w_quad_text, ↓Ss24, Ss23, ↓Ss25, Ss26, ↓w_has_wrong_quad, w_has_wrong_quad, ↓Ss27, w_parts_of, ↓Ss28, Ss29, ↓w_groups_fault, w_groups_fault, Ss30, ↓Ss31, Ss32, Ss33, ↓Ss34, Ss35, ↓w_groups_text, w_groups_text, Ss36, ↓u_is_integer, ↓u_is_from, ↓Ss38, Ss37, eq_self, Int.one_mul, Int.zero_add, Int.add_zero, Int.sub_zero, and_self, and_true, true_and, Int.reduceAdd, Int.reduceSub, Int.reduceMul, Int.reduceNeg, Int.reducePow, Int.reduceToNat, Int.reduceEq, Int.reduceLT, Int.reduceLE, Int.reduceDiv, Int.reduceMod, Nat.reduceAdd, Nat.reduceSub, Nat.reduceMul, Nat.reducePow, Nat.reduceEqDiff, Nat.reduceLT, Bool.not_true, Bool.not_false, decide_true, decide_false, Bool.and_true, Bool.true_and, Bool.and_false, Bool.false_and, Bool.or_true, Bool.true_or, Bool.or_false, Bool.false_or, Bool.not_not, List.map_cons, List.map_nil, List.cons_append, List.nil_append, List.length_cons, List.length_nil, List.length_map, List.isEmpty_nil, List.isEmpty_cons, List.isEmpty_map, Option.isNone_some, Option.isNone_none, Option.isSome_some, Option.isSome_none, Option.getD_some, Option.getD_none])
local macro_rules | `(tactic| walk_at "bt") => `(tactic| repeat' (first | walk_at "x" | with_reducible refine eqD (fun _ => ?_) (fun _ => ?_) | with_reducible refine eqB' (fun _ => ?_) (fun _ => ?_)))
local macro_rules | `(tactic| walk_at "br") => `(tactic| repeat' (first | walk_at "x" | with_reducible refine iteD (fun _ => ?_) (fun _ => ?_) | with_reducible refine iteB (fun _ => ?_) (fun _ => ?_)))
local macro_rules | `(tactic| walk_at "q") => `(tactic| walk_at "x")

theorem fold_app (l : List Int) (x a : Int) : (l ++ [x]).foldl (fun a k => a * 256 + k) a = l.foldl (fun a k => a * 256 + k) a * 256 + x := by rw [List.foldl_append]; rfl
theorem value_little : ∀ (k : Nat) (n : Int), 0 ≤ n → n < 256 ^ k → KFB.value (KTBy.little k n).reverse = n
  | 0, n, h0, h1 => by
    have : n = 0 := by simp at h1; omega
    subst this
    rfl
  | k + 1, n, h0, h1 => by
    show KFB.value ((n % 256 :: KTBy.little k (n / 256)).reverse) = n
    unfold KFB.value
    rw [List.reverse_cons, fold_app]
    have h2 : n / 256 < 256 ^ k := by
      rw [Int.pow_succ] at h1
      exact Int.ediv_lt_of_lt_mul (by decide) h1
    have := value_little k (n / 256) (by omega) h2
    unfold KFB.value at this
    rw [this]
    omega
def pck (v n : Int) : Array UInt8 := packA (if v = 4 then 4 else 16) n
theorem byN_pack {k : Nat} {n : Int} (h0 : 0 ≤ n) (h1 : n < 256 ^ k) : byN (packA k n) = n := by
  unfold byN packA
  rw [bInts_of (little_B8 k n).rev]
  exact value_little k n h0 h1
theorem pack_size (k : Nat) (n : Int) : (packA k n).size = k := by
  unfold packA
  rw [byteArr_size, List.length_reverse, KTBy.little_length]
theorem z_byN4 {n : Int} (h : Nv 4 n) : byN (pck 4 n) = n := byN_pack h.1 h.hi4
theorem z_byN6 {n : Int} (h : Nv 6 n) : byN (pck 6 n) = n := byN_pack h.1 h.hi6
theorem pck_size4 {n : Int} : (pck 4 n).size = 4 := pack_size 4 n
theorem pck_size6 {n : Int} : (pck 6 n).size = 16 := pack_size 16 n
section
variable {S : Sv} {Q : D → Sv → Prop} {E : Xn → Sv → Prop} {n m p W v : Int} {z why : Str} {b : Array UInt8}
theorem w_Address4___init__'i (h : Nv 4 n) : Rn Q E (kt (clsF "Address4" i_Address4___init__ [.int n]) S) = Q (Ad 4 n) S := by
  have h0 := h.1
  have h1 := h.hi4
  rw [u_Address4___init__]
  walk_at "x"
  rfl
theorem w_Address4___init__'f (h : ¬ (0 ≤ n ∧ n < 4294967296)) : Rn Q E (kt (clsF "Address4" i_Address4___init__ [.int n]) S) = E (badNumber (.int n)) S := by
  rw [u_Address4___init__]
  walk_at "x"
theorem w_Address4___init__'s (h : Rd 4 z n) : Rn Q E (kt (clsF "Address4" i_Address4___init__ [.str z]) S) = Q (Ad 4 n) S := by
  rw [u_Address4___init__]
  walk_at "x"
  rfl
theorem w_Address4___init__'b (h : Bad 4 z why) : Rn Q E (kt (clsF "Address4" i_Address4___init__ [.str z]) S) = E (badText why) S := by
  rw [u_Address4___init__]
  walk_at "x"
theorem w_Address4___init__'a : Rn Q E (kt (clsF "Address4" i_Address4___init__ [Ad 4 n]) S) = Q (Ad 4 n) S := by
  rw [u_Address4___init__]
  walk_at "x"
  rfl
theorem w_Address4___init__'y (hb : b.size = 4) : Rn Q E (kt (clsF "Address4" i_Address4___init__ [.byt b]) S) = Q (Ad 4 (byN b)) S := by
  rw [u_Address4___init__]
  walk_at "x"
  rfl
theorem w_Address4___init__'p (h : Nv 4 n) : Rn Q E (kt (clsF "Address4" i_Address4___init__ [.byt (pck 4 n)]) S) = Q (Ad 4 n) S := by
  rw [w_Address4___init__'y pck_size4, z_byN4 h]
theorem w_Address4___init__'z (hb : b.size ≤ 1000) (h : ¬ b.size = 4) : Rn Q E (kt (clsF "Address4" i_Address4___init__ [.byt b]) S) = E (badBytes (.int b.size)) S := by
  rw [u_Address4___init__]
  walk_at "x"
theorem w_Address4___str__ (h : Nv 4 n) : Rn Q E (kt (d_Address4___str__ [Ad 4 n]) S) = Q (.str (txt 4 n)) S := by
  have h0 := h.1
  have h1 := h.hi4
  have h2 := sizeL (Nat.le_trans (txt_len h) (by decide))
  rw [txt4] at h2 ⊢
  rw [u_Address4___str__]
  walk_at "x"
theorem w_Address4___eq__ : Rn Q E (kt (d_Address4___eq__ [Ad 4 n, Ad 4 m]) S) = Q (.bl (decide (n = m))) S := by
  rw [u_Address4___eq__]
  walk_at "x"
theorem w_Address6___init__'i (h : Nv 6 n) : Rn Q E (kt (clsF "Address6" i_Address6___init__ [.int n]) S) = Q (Ad 6 n) S := by
  have h0 := h.1
  have h1 := h.hi6
  rw [u_Address6___init__]
  walk_at "x"
  rfl
theorem w_Address6___init__'f (h : ¬ (0 ≤ n ∧ n < 340282366920938463463374607431768211456)) : Rn Q E (kt (clsF "Address6" i_Address6___init__ [.int n]) S) = E (badNumber (.int n)) S := by
  rw [u_Address6___init__]
  walk_at "x"
theorem w_Address6___init__'s (h : Rd 6 z n) : Rn Q E (kt (clsF "Address6" i_Address6___init__ [.str z]) S) = Q (Ad 6 n) S := by
  rw [u_Address6___init__]
  walk_at "x"
  rfl
theorem w_Address6___init__'b (h : Bad 6 z why) : Rn Q E (kt (clsF "Address6" i_Address6___init__ [.str z]) S) = E (badText why) S := by
  rw [u_Address6___init__]
  walk_at "x"
theorem w_Address6___init__'a : Rn Q E (kt (clsF "Address6" i_Address6___init__ [Ad 6 n]) S) = Q (Ad 6 n) S := by
  rw [u_Address6___init__]
  walk_at "x"
  rfl
theorem w_Address6___init__'y (hb : b.size = 16) : Rn Q E (kt (clsF "Address6" i_Address6___init__ [.byt b]) S) = Q (Ad 6 (byN b)) S := by
  rw [u_Address6___init__]
  walk_at "x"
  rfl
theorem w_Address6___init__'p (h : Nv 6 n) : Rn Q E (kt (clsF "Address6" i_Address6___init__ [.byt (pck 6 n)]) S) = Q (Ad 6 n) S := by
  rw [w_Address6___init__'y pck_size6, z_byN6 h]
theorem w_Address6___init__'z (hb : b.size ≤ 1000) (h : ¬ b.size = 16) : Rn Q E (kt (clsF "Address6" i_Address6___init__ [.byt b]) S) = E (badBytes (.int b.size)) S := by
  rw [u_Address6___init__]
  walk_at "x"
theorem w_Address6___str__ (h : Nv 6 n) : Rn Q E (kt (d_Address6___str__ [Ad 6 n]) S) = Q (.str (txt 6 n)) S := by
  have h0 := h.1
  have h1 := h.hi6
  have h2 := sizeL (Nat.le_trans (txt_len h) (by decide))
  rw [txt6] at h2 ⊢
  rw [u_Address6___str__]
  walk_at "x"
theorem w_Address6___eq__ : Rn Q E (kt (d_Address6___eq__ [Ad 6 n, Ad 6 m]) S) = Q (.bl (decide (n = m))) S := by
  rw [u_Address6___eq__]
  walk_at "x"
theorem w_dis'A___str__ (hv : v = 4 ∨ v = 6) (h : Nv v n) : Rn Q E (kt (dis v d_Address4___str__ d_Address6___str__ [Ad v n]) S) = Q (.str (txt v n)) S := by
  rcases hv with rfl | rfl
  · exact w_Address4___str__ h
  · exact w_Address6___str__ h
theorem w_dis'A___eq__ (hv : v = 4 ∨ v = 6) : Rn Q E (kt (dis v d_Address4___eq__ d_Address6___eq__ [Ad v n, Ad v m]) S) = Q (.bl (decide (n = m))) S := by
  rcases hv with rfl | rfl
  · exact w_Address4___eq__
  · exact w_Address6___eq__
end

def Ss39 := And.intro (And.intro (And.intro (And.intro @w_Address4___init__'i @w_Address4___init__'f) (And.intro @w_Address4___init__'s (And.intro @w_Address4___init__'b @w_Address4___init__'a))) (And.intro (And.intro @w_Address4___init__'y (And.intro @w_Address4___init__'p @w_Address4___init__'z)) (And.intro @w_Address4___str__ (And.intro @w_Address4___eq__ @w_Address6___init__'i)))) (And.intro (And.intro (And.intro @w_Address6___init__'f @w_Address6___init__'s) (And.intro @w_Address6___init__'b (And.intro @w_Address6___init__'a @w_Address6___init__'y))) (And.intro (And.intro @w_Address6___init__'p (And.intro @w_Address6___init__'z @w_Address6___str__)) (And.intro @w_Address6___eq__ (And.intro @w_dis'A___str__ @w_dis'A___eq__))))
def Ss42 := And.intro (And.intro (And.intro (And.intro @w_Address4___init__'i @w_Address4___init__'f) (And.intro @w_Address4___init__'s (And.intro @w_Address4___init__'b @w_Address4___init__'a))) (And.intro (And.intro @w_Address4___init__'y (And.intro @w_Address4___init__'p @w_Address4___init__'z)) (And.intro @w_Address4___str__ (And.intro @w_Address4___eq__ @w_Address6___init__'i)))) (And.intro (And.intro (And.intro @w_Address6___init__'f @w_Address6___init__'s) (And.intro @w_Address6___init__'b (And.intro @w_Address6___init__'a @w_Address6___init__'y))) (And.intro (And.intro @w_Address6___init__'p (And.intro @w_Address6___init__'z @w_Address6___str__)) (And.intro @w_Address6___eq__ (And.intro @w_dis'A___str__ @w_dis'A___eq__))))
def Ss43 := And.intro @z_byN4 @z_byN6
end Dn

set_option Elab.async false
set_option linter.all false
set_option maxRecDepth 100000
set_option maxHeartbeats 4000000
set_option pp.deepTerms false
set_option pp.deepTerms.threshold 5
set_option pp.maxSteps 1500

namespace Dn
open PySem PySem.W PySem.Spec PyProof.Rows L2 TL Bits An
section
variable {S : Sv} {Q : D → Sv → Prop} {E : Xn → Sv → Prop} {i : Int} {b : Bool}
theorem log_big {i : Int} (h0 : -1000000000000000000000000000000000000000000000000000000000000 ≤ i) (h1 : i ≤ 1000000000000000000000000000000000000000000000000000000000000) : i.natAbs.log2 < 1920 := by
  have hb : i.natAbs ≤ 1000000000000000000000000000000000000000000000000000000000000 := by omega
  by_cases h : i.natAbs = 0
  · rw [h]; decide
  · refine (Nat.log2_lt h).mpr (Nat.lt_of_le_of_lt hb ?_)
    have e : (1000000000000000000000000000000000000000000000000000000000000 : Nat) < 2 ^ 200 := by decide
    exact Nat.lt_of_lt_of_le e (Nat.pow_le_pow_right (by decide) (by decide))
theorem q_reprI (h0 : -1000000000000000000000000000000000000000000000000000000000000 ≤ i) (h1 : i ≤ 1000000000000000000000000000000000000000000000000000000000000) : Rn Q E (kt (reprD [.int i]) S) = Q (.str (Str.ofString (toString i))) S := propext ⟨fun z => z.2, fun z => ⟨log_big h0 h1, z⟩⟩
theorem q_reprB : Rn Q E (kt (reprD [.bl b]) S) = Q (.str (if b then "True" else "False")) S := propext ⟨id, id⟩
theorem q_reprN : Rn Q E (kt (reprD [.non]) S) = Q (.str "None") S := propext ⟨id, id⟩
end

def Ss41 := And.intro @q_reprI (And.intro @q_reprB @q_reprN)
end Dn

set_option Elab.async false
set_option linter.all false
set_option maxRecDepth 100000
set_option maxHeartbeats 4000000
set_option pp.deepTerms false
set_option pp.deepTerms.threshold 5
set_option pp.maxSteps 1500

namespace Dn
open PySem PySem.W PySem.Spec PyProof.Rows L2 TL Bits An
theorem q_mtL {S : Sv} {Q : D → Sv → Prop} {E : Xn → Sv → Prop} {ρ : Rh} {f : D → List D → M D} {a : Rh → M (List D)} {xs : List D} : Rn Q E (kt (mtK "list" f a ρ (.lst xs)) S) = Rn (fun ds S2 => Rn Q E (kt (f (.lst xs) ds) S2)) E (kt (a ρ) S) := propext ⟨id, id⟩
theorem q_src0 {k : Int} {S : Sv} {Q : D → Sv → Prop} {E : Xn → Sv → Prop} (h : 0 ≤ k ∧ k < 3) : Rn Q E (kt (ixD .src (.int k)) S) = ∀ i : Int, Q (.int i) S := q_ixSrc h

def Ss40 := And.intro @q_mtL @q_src0
local macro_rules | `(tactic| walk_at "sk") => `(tactic| exact sk_lit (by decide +kernel))
local macro_rules | `(tactic| walk_at "sk") => `(tactic| (refine sk_app ?_ ?_ <;> walk_at "sk"))
local macro_rules | `(tactic| walk_at "sk") => `(tactic| assumption)
local macro_rules | `(tactic| walk_at "py") => `(tactic| repeat' first | exact pyl_nil | refine pyl_cons ?_ ?_ | exact py_int | exact py_non | exact py_bl | (refine py_str ?_; walk_at "sk") | refine py_tup ?_ | refine py_lst ?_ | (refine pyl_map fun _ _ => ?_) | refine pyl_app ?_ ?_)
local macro_rules | `(tactic| walk_at "sd") => `(tactic| first | assumption | omega | exact trivial | walk_at "sz" | exact cm_l (by omega) | exact cm_r (by omega) | exact cdivw (by omega) (by omega) | exact cshl (by omega) (by omega) (by omega) (by omega) | exact cshl_div (by omega) (by omega) (by omega) (by omega) | exact cpow10 | exact log_small (by omega) (by omega) | exact szL (by omega) | exact szL1 (by omega) | (exact szL (by simp only [List.length_cons, List.length_nil, List.length_map, List.length_append, List.length_replicate, List.length_range]; omega)) | (exact szL1 (by simp only [List.length_cons, List.length_nil, List.length_map, List.length_append, List.length_replicate, List.length_range]; omega)) | (exact szL (by simp only [Str_len_app, len_emp, len_slash]; omega)) | (refine And.intro ?_ ?_ <;> walk_at "sd") | (walk_at "py"; done) | ((simp only [↓Ss13, ↓Ss14, ↓Ss5, Ss8, ↓Ss17, ↓Ss0, ↓Ss12, ↓Ss3, Ss18, Ss2, ↓Ss10, Ss9, ↓Ss19, Ss20, Ss15, ↓Ss4, Ss7, Ss6, ↓Ss11, Ss16, ↓q_intDg, Ss1, ↓w_part_fault, w_part_fault, ↓w_quad_fault, w_quad_fault, ↓Ss21, Ss22, ↓w_quad_text, w_quad_text, ↓Ss24, Ss23, ↓Ss25, Ss26, ↓w_has_wrong_quad, w_has_wrong_quad, ↓Ss27, w_parts_of, ↓Ss28, Ss29, ↓w_groups_fault, w_groups_fault, Ss30, ↓Ss31, Ss32, Ss33, ↓Ss34, Ss35, ↓w_groups_text, w_groups_text, Ss36, ↓u_is_integer, ↓u_is_from, ↓Ss38, Ss37, ↓u_is_integer, ↓u_is_from, ↓Ss39, Ss42, Ss43, ↓u_is_integer, ↓u_is_from, ↓Ss41, ↓Ss40, List.length_cons, List.length_nil, List.length_map, List.length_append, List.length_replicate, List.length_range, List.length_drop, List.length_take, Nat.reduceLeDiff, Nat.reduceAdd, Int.reduceToNat, Int.reducePow]) <;> omega) | decide +kernel)
local macro_rules | `(tactic| walk_at "x") => `(tactic| simp (maxSteps := 10000000) (disch := walk_at "sd") only [↓Ss13, ↓Ss14, ↓Ss5, Ss8, ↓Ss17, ↓Ss0, ↓Ss12, ↓Ss3, Ss18, Ss2, ↓Ss10, Ss9, ↓Ss19, Ss20, Ss15, ↓Ss4, Ss7, Ss6, ↓Ss11, Ss16, ↓q_intDg, Ss1, ↓w_part_fault, w_part_fault, ↓w_quad_fault, w_quad_fault, ↓Ss21, Ss22, ↓w_quad_text, w_quad_text, ↓Ss24, Ss23, ↓Ss25, Ss26, ↓w_has_wrong_quad, w_has_wrong_quad, ↓Ss27, w_parts_of, ↓Ss28, Ss29, ↓w_groups_fault, w_groups_fault, Ss30, ↓Ss31, Ss32, Ss33, ↓Ss34, Ss35, ↓w_groups_text, w_groups_text, Ss36, ↓u_is_integer, ↓u_is_from, ↓Ss38, Ss37, ↓Ss39, Ss42, Ss43, ↓Ss41, ↓Ss40, eq_self, Int.one_mul, Int.zero_add, Int.add_zero, Int.sub_zero, and_self, and_true, true_and, Int.reduceAdd, Int.reduceSub, Int.reduceMul, Int.reduceNeg, Int.reducePow, Int.reduceToNat, Int.reduceEq, Int.reduceLT, Int.reduceLE, Int.reduceDiv, Int.reduceMod, Nat.reduceAdd, Nat.reduceSub, Nat.reduceMul, Nat.reducePow, Nat.reduceEqDiff, Nat.reduceLT, Bool.not_true, Bool.not_false, decide_true, decide_false, Bool.and_true, Bool.true_and, Bool.and_false, Bool.false_and, Bool.or_true, Bool.true_or, Bool.or_false, Bool.false_or, Bool.not_not, List.map_cons, List.map_nil, List.cons_append, List.nil_append, List.length_cons, List.length_nil, List.length_map, List.isEmpty_nil, List.isEmpty_cons, List.isEmpty_map, Option.isNone_some, Option.isNone_none, Option.isSome_some, Option.isSome_none, Option.getD_some, Option.getD_none])
local macro_rules | `(tactic| walk_at "bt") => `(tactic| repeat' (first | walk_at "x" | with_reducible refine eqD (fun _ => ?_) (fun _ => ?_) | with_reducible refine eqB' (fun _ => ?_) (fun _ => ?_)))
local macro_rules | `(tactic| walk_at "br") => `(tactic| repeat' (first | walk_at "x" | with_reducible refine iteD (fun _ => ?_) (fun _ => ?_) | with_reducible refine iteB (fun _ => ?_) (fun _ => ?_)))
local macro_rules | `(tactic| walk_at "q") => `(tactic| walk_at "x")

section
variable {S : Sv} {Q : D → Sv → Prop} {E : Xn → Sv → Prop} {n p w v : Int}
theorem mix {a b : Int} (h : ∀ r : Int, Q (.int r) S) : Rn Q E (kt (d__law_mix [.int a, .int b]) S) := by
  rw [u__law_mix]
  walk_at "x"
  exact h _
theorem draw {m : Int} (hm : 0 < m) (hm2 : m < 2 ^ 200) (h : ∀ r : Int, 0 ≤ r → r < m → Q (.int r) S) : Rn Q E (kt (d__law_draw [.src, .int m]) S) := by
  rw [u__law_draw]
  walk_at "x"
  intro k
  refine iteD (fun hk => ?_) (fun hk => ?_)
  · repeat' (first | walk_at "x" | intro _)
    exact h _ (Int.emod_nonneg _ (by omega)) (Int.emod_lt_of_pos _ hm)
  · repeat' (first | walk_at "x" | intro _)
    refine mix fun r => ?_
    walk_at "x"
    exact h _ (Int.emod_nonneg _ (by omega)) (Int.emod_lt_of_pos _ hm)
theorem source {ns : List Int} {k : Int} (k0 : 0 ≤ k) (k1 : k ≤ 1000) (hn : ns.length ≤ 63) (h : Q .src S) : Rn Q E (kt (d__law_source [.scr (ns.map .int), .int k]) S) := by
  have e0 : atI (ns.map D.int ++ [D.int 0]) 0 = some (D.int (ns.headD 0)) := by cases ns <;> exact z_at0
  obtain ⟨k, rfl⟩ := Int.eq_ofNat_of_zero_le k0
  rw [u__law_source]
  walk_at "x"
  rw [e0]
  walk_at "x"
  refine iteD (fun hk => ?_) (fun hk => ?_)
  · have hk : k < ns.length := by omega
    walk_at "x"
    rw [atN (v := D.int ns[k]) (by rw [List.getElem?_map, List.getElem?_eq_getElem hk]; rfl)]
    walk_at "x"
    exact h
  · walk_at "x"
    exact h
theorem number {v : Int} (hv : v = 4 ∨ v = 6) (h : ∀ n : Int, Nv v n → Q (.int n) S) : Rn Q E (kt (d__law_number [.src, .int (Wv v)]) S) := by
  have hp := pos2
  rw [u__law_number]
  rcases hv with rfl | rfl
  · walk_at "x"
    refine draw (by omega) (by omega) fun a a0 a1 => ?_
    walk_at "x"
    refine iteD (fun _ => ?_) (fun _ => ?_)
    · walk_at "x"
      refine draw (by omega) (by omega) fun b b0 b1 => ?_
      walk_at "x"
      refine pickL b0 b1 ?_
      simp only [List.forall_mem_cons]
      exact ⟨h _ (nv4 (by omega) (by omega)), h _ (nv4 (by omega) (by omega)), h _ (nv4 (by omega) (by omega)), h _ (nv4 (by omega) (by omega)), fun _ z => by cases z⟩
    walk_at "x"
    refine iteD (fun _ => ?_) (fun _ => ?_)
    · walk_at "x"
      refine draw (by omega) (by omega) fun b b0 b1 => ?_
      walk_at "x"
      refine draw (by omega) (by omega) fun c c0 c1 => ?_
      walk_at "x"
      have := hp b.toNat
      exact h _ (nv4 (by omega) (by omega))
    walk_at "x"
    refine lp_st (fun x : Int => [.sh .src, .sh (.int (Wv 4)), .sh (.int 4294967295), .sh (.int a), .sh (.int 8), .sh (.int x), .un, .un]) (fun l r x => 0 ≤ x ∧ x < 256 ^ l.length) 0 rfl ⟨Int.le_refl _, by show (0 : Int) < _ ^ 0; decide⟩ ?_ ?_
    · intro l i r x N e hi hN
      have hl : l.length ≤ 3 := by
        have := congrArg List.length e
        simp at this
        omega
      have hb : (256 : Int) ^ l.length ≤ 256 ^ 3 := by rw [show (256 : Int) = 2 ^ 8 by decide, ← Int.pow_mul, ← Int.pow_mul]; exact p2_le (by omega)
      walk_at "x"
      refine draw (by omega) (by omega) fun b b0 b1 => ?_
      walk_at "x"
      refine draw (by omega) (by omega) fun c c0 c1 => ?_
      walk_at "x"
      refine pickL c0 c1 ?_
      simp only [List.forall_mem_cons]
      have hx : ∀ y : Int, 0 ≤ y → y < 256 → N [.sh .src, .sh (.int (Wv 4)), .sh (.int 4294967295), .sh (.int a), .sh (.int 8), .sh (.int (x * 256 + y)), .un, .un] S := fun y y0 y1 => by
        refine hN _ ?_
        rw [List.length_append, List.length_singleton, Int.pow_succ]
        omega
      have h0 := hx 0 (by decide) (by decide)
      rw [Int.add_zero] at h0
      have h1 := hx 1 (by decide) (by decide)
      have h2 := hx 255 (by decide) (by decide)
      have h3 := hx b b0 b1
      refine ⟨?_, ?_, ?_, ?_, ?_, ?_, fun _ z => by cases z⟩
      · walk_at "x"; exact h0
      · walk_at "x"; exact h0
      · walk_at "x"; exact h0
      · walk_at "x"; exact h1
      · walk_at "x"; exact h2
      · walk_at "x"; exact h3
    · intro x hi
      rw [List.length_range] at hi
      walk_at "x"
      exact h _ ⟨hi.1, hi.2⟩
  · walk_at "x"
    refine draw (by omega) (by omega) fun a a0 a1 => ?_
    walk_at "x"
    refine iteD (fun _ => ?_) (fun _ => ?_)
    · walk_at "x"
      refine draw (by omega) (by omega) fun b b0 b1 => ?_
      walk_at "x"
      refine pickL b0 b1 ?_
      simp only [List.forall_mem_cons]
      exact ⟨h _ (nv6 (by omega) (by omega)), h _ (nv6 (by omega) (by omega)), h _ (nv6 (by omega) (by omega)), h _ (nv6 (by omega) (by omega)), fun _ z => by cases z⟩
    walk_at "x"
    refine iteD (fun _ => ?_) (fun _ => ?_)
    · walk_at "x"
      refine draw (by omega) (by omega) fun b b0 b1 => ?_
      walk_at "x"
      refine draw (by omega) (by omega) fun c c0 c1 => ?_
      walk_at "x"
      have := hp b.toNat
      exact h _ (nv6 (by omega) (by omega))
    walk_at "x"
    refine lp_st (fun x : Int => [.sh .src, .sh (.int (Wv 6)), .sh (.int 340282366920938463463374607431768211455), .sh (.int a), .sh (.int 16), .sh (.int x), .un, .un]) (fun l r x => 0 ≤ x ∧ x < 65536 ^ l.length) 0 rfl ⟨Int.le_refl _, by show (0 : Int) < _ ^ 0; decide⟩ ?_ ?_
    · intro l i r x N e hi hN
      have hl : l.length ≤ 7 := by
        have := congrArg List.length e
        simp at this
        omega
      have hb : (65536 : Int) ^ l.length ≤ 65536 ^ 7 := by rw [show (65536 : Int) = 2 ^ 16 by decide, ← Int.pow_mul, ← Int.pow_mul]; exact p2_le (by omega)
      walk_at "x"
      refine draw (by omega) (by omega) fun b b0 b1 => ?_
      walk_at "x"
      refine draw (by omega) (by omega) fun c c0 c1 => ?_
      walk_at "x"
      refine pickL c0 c1 ?_
      simp only [List.forall_mem_cons]
      have hx : ∀ y : Int, 0 ≤ y → y < 65536 → N [.sh .src, .sh (.int (Wv 6)), .sh (.int 340282366920938463463374607431768211455), .sh (.int a), .sh (.int 16), .sh (.int (x * 65536 + y)), .un, .un] S := fun y y0 y1 => by
        refine hN _ ?_
        rw [List.length_append, List.length_singleton, Int.pow_succ]
        omega
      have h0 := hx 0 (by decide) (by decide)
      rw [Int.add_zero] at h0
      have h1 := hx 1 (by decide) (by decide)
      have h2 := hx 65535 (by decide) (by decide)
      have h3 := hx b b0 b1
      refine ⟨?_, ?_, ?_, ?_, ?_, ?_, fun _ z => by cases z⟩
      · walk_at "x"; exact h0
      · walk_at "x"; exact h0
      · walk_at "x"; exact h0
      · walk_at "x"; exact h1
      · walk_at "x"; exact h2
      · walk_at "x"; exact h3
    · intro x hi
      rw [List.length_range] at hi
      walk_at "x"
      exact h _ ⟨hi.1, hi.2⟩
end


end Dn

set_option Elab.async false
set_option linter.all false
set_option maxRecDepth 100000
set_option maxHeartbeats 4000000
set_option pp.deepTerms false
set_option pp.deepTerms.threshold 5
set_option pp.maxSteps 1500

namespace Dn
open PySem PySem.W PySem.Spec PyProof.Rows L2 TL Bits An
section
variable {S : Sv} {Q : D → Sv → Prop} {E : Xn → Sv → Prop} {c C f : Str} {ns cs : List Str} {ds : List D} {d t : D} {b : Bool} {ρ : Rh} {n m : Int}
theorem z_at5 {α : Type} {a b c d e f : α} {xs : List α} : atI (a :: b :: c :: d :: e :: f :: xs) 5 = some f := atN (k := 5) rfl
theorem isx (h : isXV xsA c t = some b) : Rn Q E (kt (isiX xsA (isiD csA) [.xn c ns ds, t]) S) = Q (.bl b) S := by
  show orFail ((isXV xsA c t).map .bl) S Q E = _
  rw [h]
  exact propext ⟨id, id⟩
theorem xfX (h1 : cs.contains c = true) (h2 : (ns.zip ds).lookup f = some d) : Rn Q E (kt (xfD cs f (.xn c ns ds)) S) = Q d S := by
  show (match cs.contains c with | true => fldOf f ns ds | false => fail) S Q E = _
  rw [h1]
  show (match (ns.zip ds).lookup f with | some d => ret d | none => fail) S Q E = _
  rw [h2]
  exact propext ⟨id, id⟩
theorem lookX1 : ((([f] : List Str)).zip [d]).lookup f = some d := by
  show (match f == f with | true => some d | false => none) = some d
  rw [show (f == f) = true by simp]
theorem q_xfV : Rn Q E (kt (xfD [("BadNumber" : Str)] "value" (.xn "BadNumber" ["value"] [d])) S) = Q d S := xfX (by decide +kernel) lookX1
theorem q_xfW : Rn Q E (kt (xfD [("BadText" : Str)] "why" (.xn "BadText" ["why"] [d])) S) = Q d S := xfX (by decide +kernel) lookX1
theorem q_xfL : Rn Q E (kt (xfD [("BadBytes" : Str), ("BadPrefix" : Str)] "length" (.xn "BadBytes" ["length"] [d])) S) = Q d S := xfX (by decide +kernel) lookX1
theorem q_xfP : Rn Q E (kt (xfD [("BadBytes" : Str), ("BadPrefix" : Str)] "length" (.xn "BadPrefix" ["length"] [d])) S) = Q d S := xfX (by decide +kernel) lookX1
theorem q_xfT : Rn Q E (kt (xfD [("HostBits" : Str)] "told" (.xn "HostBits" ["told"] [d])) S) = Q d S := xfX (by decide +kernel) lookX1
theorem q_xnI {e : M D} : Rn Q E (kt (bind e fun d => ret (.xn c ns [d])) S) = Rn (fun d S1 => Q (.xn c ns [d]) S1) E (kt e S) := propext ⟨id, id⟩
theorem q_xn0 : Rn Q E (kt (ret (.xn c ns ds)) S) = Q (.xn c ns ds) S := propext ⟨id, id⟩
theorem q_net0 : Rn Q E (kt (isiX xsA (isiD csA) [.xn "BadKind" ns ds, .cls "NetError"]) S) = Q (.bl true) S := isx (by decide +kernel)
theorem q_ve0 : Rn Q E (kt (isiX xsA (isiD csA) [.xn "BadKind" ns ds, .ty "ValueError"]) S) = Q (.bl true) S := isx (by decide +kernel)
theorem q_is0_0 : Rn Q E (kt (isiX xsA (isiD csA) [.xn "BadKind" ns ds, .cls "BadKind"]) S) = Q (.bl true) S := isx (by decide +kernel)
theorem q_is0_1 : Rn Q E (kt (isiX xsA (isiD csA) [.xn "BadKind" ns ds, .cls "BadNumber"]) S) = Q (.bl false) S := isx (by decide +kernel)
theorem q_is0_2 : Rn Q E (kt (isiX xsA (isiD csA) [.xn "BadKind" ns ds, .cls "BadText"]) S) = Q (.bl false) S := isx (by decide +kernel)
theorem q_is0_3 : Rn Q E (kt (isiX xsA (isiD csA) [.xn "BadKind" ns ds, .cls "BadBytes"]) S) = Q (.bl false) S := isx (by decide +kernel)
theorem q_is0_4 : Rn Q E (kt (isiX xsA (isiD csA) [.xn "BadKind" ns ds, .cls "BadPrefix"]) S) = Q (.bl false) S := isx (by decide +kernel)
theorem q_is0_5 : Rn Q E (kt (isiX xsA (isiD csA) [.xn "BadKind" ns ds, .cls "HostBits"]) S) = Q (.bl false) S := isx (by decide +kernel)
theorem q_is0_6 : Rn Q E (kt (isiX xsA (isiD csA) [.xn "BadKind" ns ds, .cls "Mixed"]) S) = Q (.bl false) S := isx (by decide +kernel)
theorem q_is0_7 : Rn Q E (kt (isiX xsA (isiD csA) [.xn "BadKind" ns ds, .cls "NotWithin"]) S) = Q (.bl false) S := isx (by decide +kernel)
theorem q_is0_8 : Rn Q E (kt (isiX xsA (isiD csA) [.xn "BadKind" ns ds, .cls "BadRange"]) S) = Q (.bl false) S := isx (by decide +kernel)
theorem q_is0_9 : Rn Q E (kt (isiX xsA (isiD csA) [.xn "BadKind" ns ds, .cls "BadWord"]) S) = Q (.bl false) S := isx (by decide +kernel)
theorem q_is0_10 : Rn Q E (kt (isiX xsA (isiD csA) [.xn "BadKind" ns ds, .cls "NotThere"]) S) = Q (.bl false) S := isx (by decide +kernel)
theorem q_is0_11 : Rn Q E (kt (isiX xsA (isiD csA) [.xn "BadKind" ns ds, .cls "NoMatch"]) S) = Q (.bl false) S := isx (by decide +kernel)
theorem q_cnt0 : Rn Q E (kt (lcountD (.lst [.bl true, .bl false, .bl false, .bl false, .bl false, .bl false, .bl false, .bl false, .bl false, .bl false, .bl false, .bl false]) [.bl true]) S) = Q (.int 1) S := propext ⟨id, id⟩
theorem q_ixb0 : Rn Q E (kt (lindexB (.lst [.bl true, .bl false, .bl false, .bl false, .bl false, .bl false, .bl false, .bl false, .bl false, .bl false, .bl false, .bl false]) [.bl true]) S) = Q (.int 0) S := propext ⟨id, id⟩
theorem q_net1 : Rn Q E (kt (isiX xsA (isiD csA) [.xn "BadNumber" ns ds, .cls "NetError"]) S) = Q (.bl true) S := isx (by decide +kernel)
theorem q_ve1 : Rn Q E (kt (isiX xsA (isiD csA) [.xn "BadNumber" ns ds, .ty "ValueError"]) S) = Q (.bl true) S := isx (by decide +kernel)
theorem q_is1_0 : Rn Q E (kt (isiX xsA (isiD csA) [.xn "BadNumber" ns ds, .cls "BadKind"]) S) = Q (.bl false) S := isx (by decide +kernel)
theorem q_is1_1 : Rn Q E (kt (isiX xsA (isiD csA) [.xn "BadNumber" ns ds, .cls "BadNumber"]) S) = Q (.bl true) S := isx (by decide +kernel)
theorem q_is1_2 : Rn Q E (kt (isiX xsA (isiD csA) [.xn "BadNumber" ns ds, .cls "BadText"]) S) = Q (.bl false) S := isx (by decide +kernel)
theorem q_is1_3 : Rn Q E (kt (isiX xsA (isiD csA) [.xn "BadNumber" ns ds, .cls "BadBytes"]) S) = Q (.bl false) S := isx (by decide +kernel)
theorem q_is1_4 : Rn Q E (kt (isiX xsA (isiD csA) [.xn "BadNumber" ns ds, .cls "BadPrefix"]) S) = Q (.bl false) S := isx (by decide +kernel)
theorem q_is1_5 : Rn Q E (kt (isiX xsA (isiD csA) [.xn "BadNumber" ns ds, .cls "HostBits"]) S) = Q (.bl false) S := isx (by decide +kernel)
theorem q_is1_6 : Rn Q E (kt (isiX xsA (isiD csA) [.xn "BadNumber" ns ds, .cls "Mixed"]) S) = Q (.bl false) S := isx (by decide +kernel)
theorem q_is1_7 : Rn Q E (kt (isiX xsA (isiD csA) [.xn "BadNumber" ns ds, .cls "NotWithin"]) S) = Q (.bl false) S := isx (by decide +kernel)
theorem q_is1_8 : Rn Q E (kt (isiX xsA (isiD csA) [.xn "BadNumber" ns ds, .cls "BadRange"]) S) = Q (.bl false) S := isx (by decide +kernel)
theorem q_is1_9 : Rn Q E (kt (isiX xsA (isiD csA) [.xn "BadNumber" ns ds, .cls "BadWord"]) S) = Q (.bl false) S := isx (by decide +kernel)
theorem q_is1_10 : Rn Q E (kt (isiX xsA (isiD csA) [.xn "BadNumber" ns ds, .cls "NotThere"]) S) = Q (.bl false) S := isx (by decide +kernel)
theorem q_is1_11 : Rn Q E (kt (isiX xsA (isiD csA) [.xn "BadNumber" ns ds, .cls "NoMatch"]) S) = Q (.bl false) S := isx (by decide +kernel)
theorem q_cnt1 : Rn Q E (kt (lcountD (.lst [.bl false, .bl true, .bl false, .bl false, .bl false, .bl false, .bl false, .bl false, .bl false, .bl false, .bl false, .bl false]) [.bl true]) S) = Q (.int 1) S := propext ⟨id, id⟩
theorem q_ixb1 : Rn Q E (kt (lindexB (.lst [.bl false, .bl true, .bl false, .bl false, .bl false, .bl false, .bl false, .bl false, .bl false, .bl false, .bl false, .bl false]) [.bl true]) S) = Q (.int 1) S := propext ⟨id, id⟩
theorem q_net2 : Rn Q E (kt (isiX xsA (isiD csA) [.xn "BadText" ns ds, .cls "NetError"]) S) = Q (.bl true) S := isx (by decide +kernel)
theorem q_ve2 : Rn Q E (kt (isiX xsA (isiD csA) [.xn "BadText" ns ds, .ty "ValueError"]) S) = Q (.bl true) S := isx (by decide +kernel)
theorem q_is2_0 : Rn Q E (kt (isiX xsA (isiD csA) [.xn "BadText" ns ds, .cls "BadKind"]) S) = Q (.bl false) S := isx (by decide +kernel)
theorem q_is2_1 : Rn Q E (kt (isiX xsA (isiD csA) [.xn "BadText" ns ds, .cls "BadNumber"]) S) = Q (.bl false) S := isx (by decide +kernel)
theorem q_is2_2 : Rn Q E (kt (isiX xsA (isiD csA) [.xn "BadText" ns ds, .cls "BadText"]) S) = Q (.bl true) S := isx (by decide +kernel)
theorem q_is2_3 : Rn Q E (kt (isiX xsA (isiD csA) [.xn "BadText" ns ds, .cls "BadBytes"]) S) = Q (.bl false) S := isx (by decide +kernel)
theorem q_is2_4 : Rn Q E (kt (isiX xsA (isiD csA) [.xn "BadText" ns ds, .cls "BadPrefix"]) S) = Q (.bl false) S := isx (by decide +kernel)
theorem q_is2_5 : Rn Q E (kt (isiX xsA (isiD csA) [.xn "BadText" ns ds, .cls "HostBits"]) S) = Q (.bl false) S := isx (by decide +kernel)
theorem q_is2_6 : Rn Q E (kt (isiX xsA (isiD csA) [.xn "BadText" ns ds, .cls "Mixed"]) S) = Q (.bl false) S := isx (by decide +kernel)
theorem q_is2_7 : Rn Q E (kt (isiX xsA (isiD csA) [.xn "BadText" ns ds, .cls "NotWithin"]) S) = Q (.bl false) S := isx (by decide +kernel)
theorem q_is2_8 : Rn Q E (kt (isiX xsA (isiD csA) [.xn "BadText" ns ds, .cls "BadRange"]) S) = Q (.bl false) S := isx (by decide +kernel)
theorem q_is2_9 : Rn Q E (kt (isiX xsA (isiD csA) [.xn "BadText" ns ds, .cls "BadWord"]) S) = Q (.bl false) S := isx (by decide +kernel)
theorem q_is2_10 : Rn Q E (kt (isiX xsA (isiD csA) [.xn "BadText" ns ds, .cls "NotThere"]) S) = Q (.bl false) S := isx (by decide +kernel)
theorem q_is2_11 : Rn Q E (kt (isiX xsA (isiD csA) [.xn "BadText" ns ds, .cls "NoMatch"]) S) = Q (.bl false) S := isx (by decide +kernel)
theorem q_cnt2 : Rn Q E (kt (lcountD (.lst [.bl false, .bl false, .bl true, .bl false, .bl false, .bl false, .bl false, .bl false, .bl false, .bl false, .bl false, .bl false]) [.bl true]) S) = Q (.int 1) S := propext ⟨id, id⟩
theorem q_ixb2 : Rn Q E (kt (lindexB (.lst [.bl false, .bl false, .bl true, .bl false, .bl false, .bl false, .bl false, .bl false, .bl false, .bl false, .bl false, .bl false]) [.bl true]) S) = Q (.int 2) S := propext ⟨id, id⟩
theorem q_net3 : Rn Q E (kt (isiX xsA (isiD csA) [.xn "BadBytes" ns ds, .cls "NetError"]) S) = Q (.bl true) S := isx (by decide +kernel)
theorem q_ve3 : Rn Q E (kt (isiX xsA (isiD csA) [.xn "BadBytes" ns ds, .ty "ValueError"]) S) = Q (.bl true) S := isx (by decide +kernel)
theorem q_is3_0 : Rn Q E (kt (isiX xsA (isiD csA) [.xn "BadBytes" ns ds, .cls "BadKind"]) S) = Q (.bl false) S := isx (by decide +kernel)
theorem q_is3_1 : Rn Q E (kt (isiX xsA (isiD csA) [.xn "BadBytes" ns ds, .cls "BadNumber"]) S) = Q (.bl false) S := isx (by decide +kernel)
theorem q_is3_2 : Rn Q E (kt (isiX xsA (isiD csA) [.xn "BadBytes" ns ds, .cls "BadText"]) S) = Q (.bl false) S := isx (by decide +kernel)
theorem q_is3_3 : Rn Q E (kt (isiX xsA (isiD csA) [.xn "BadBytes" ns ds, .cls "BadBytes"]) S) = Q (.bl true) S := isx (by decide +kernel)
theorem q_is3_4 : Rn Q E (kt (isiX xsA (isiD csA) [.xn "BadBytes" ns ds, .cls "BadPrefix"]) S) = Q (.bl false) S := isx (by decide +kernel)
theorem q_is3_5 : Rn Q E (kt (isiX xsA (isiD csA) [.xn "BadBytes" ns ds, .cls "HostBits"]) S) = Q (.bl false) S := isx (by decide +kernel)
theorem q_is3_6 : Rn Q E (kt (isiX xsA (isiD csA) [.xn "BadBytes" ns ds, .cls "Mixed"]) S) = Q (.bl false) S := isx (by decide +kernel)
theorem q_is3_7 : Rn Q E (kt (isiX xsA (isiD csA) [.xn "BadBytes" ns ds, .cls "NotWithin"]) S) = Q (.bl false) S := isx (by decide +kernel)
theorem q_is3_8 : Rn Q E (kt (isiX xsA (isiD csA) [.xn "BadBytes" ns ds, .cls "BadRange"]) S) = Q (.bl false) S := isx (by decide +kernel)
theorem q_is3_9 : Rn Q E (kt (isiX xsA (isiD csA) [.xn "BadBytes" ns ds, .cls "BadWord"]) S) = Q (.bl false) S := isx (by decide +kernel)
theorem q_is3_10 : Rn Q E (kt (isiX xsA (isiD csA) [.xn "BadBytes" ns ds, .cls "NotThere"]) S) = Q (.bl false) S := isx (by decide +kernel)
theorem q_is3_11 : Rn Q E (kt (isiX xsA (isiD csA) [.xn "BadBytes" ns ds, .cls "NoMatch"]) S) = Q (.bl false) S := isx (by decide +kernel)
theorem q_cnt3 : Rn Q E (kt (lcountD (.lst [.bl false, .bl false, .bl false, .bl true, .bl false, .bl false, .bl false, .bl false, .bl false, .bl false, .bl false, .bl false]) [.bl true]) S) = Q (.int 1) S := propext ⟨id, id⟩
theorem q_ixb3 : Rn Q E (kt (lindexB (.lst [.bl false, .bl false, .bl false, .bl true, .bl false, .bl false, .bl false, .bl false, .bl false, .bl false, .bl false, .bl false]) [.bl true]) S) = Q (.int 3) S := propext ⟨id, id⟩
theorem q_net4 : Rn Q E (kt (isiX xsA (isiD csA) [.xn "BadPrefix" ns ds, .cls "NetError"]) S) = Q (.bl true) S := isx (by decide +kernel)
theorem q_ve4 : Rn Q E (kt (isiX xsA (isiD csA) [.xn "BadPrefix" ns ds, .ty "ValueError"]) S) = Q (.bl true) S := isx (by decide +kernel)
theorem q_is4_0 : Rn Q E (kt (isiX xsA (isiD csA) [.xn "BadPrefix" ns ds, .cls "BadKind"]) S) = Q (.bl false) S := isx (by decide +kernel)
theorem q_is4_1 : Rn Q E (kt (isiX xsA (isiD csA) [.xn "BadPrefix" ns ds, .cls "BadNumber"]) S) = Q (.bl false) S := isx (by decide +kernel)
theorem q_is4_2 : Rn Q E (kt (isiX xsA (isiD csA) [.xn "BadPrefix" ns ds, .cls "BadText"]) S) = Q (.bl false) S := isx (by decide +kernel)
theorem q_is4_3 : Rn Q E (kt (isiX xsA (isiD csA) [.xn "BadPrefix" ns ds, .cls "BadBytes"]) S) = Q (.bl false) S := isx (by decide +kernel)
theorem q_is4_4 : Rn Q E (kt (isiX xsA (isiD csA) [.xn "BadPrefix" ns ds, .cls "BadPrefix"]) S) = Q (.bl true) S := isx (by decide +kernel)
theorem q_is4_5 : Rn Q E (kt (isiX xsA (isiD csA) [.xn "BadPrefix" ns ds, .cls "HostBits"]) S) = Q (.bl false) S := isx (by decide +kernel)
theorem q_is4_6 : Rn Q E (kt (isiX xsA (isiD csA) [.xn "BadPrefix" ns ds, .cls "Mixed"]) S) = Q (.bl false) S := isx (by decide +kernel)
theorem q_is4_7 : Rn Q E (kt (isiX xsA (isiD csA) [.xn "BadPrefix" ns ds, .cls "NotWithin"]) S) = Q (.bl false) S := isx (by decide +kernel)
theorem q_is4_8 : Rn Q E (kt (isiX xsA (isiD csA) [.xn "BadPrefix" ns ds, .cls "BadRange"]) S) = Q (.bl false) S := isx (by decide +kernel)
theorem q_is4_9 : Rn Q E (kt (isiX xsA (isiD csA) [.xn "BadPrefix" ns ds, .cls "BadWord"]) S) = Q (.bl false) S := isx (by decide +kernel)
theorem q_is4_10 : Rn Q E (kt (isiX xsA (isiD csA) [.xn "BadPrefix" ns ds, .cls "NotThere"]) S) = Q (.bl false) S := isx (by decide +kernel)
theorem q_is4_11 : Rn Q E (kt (isiX xsA (isiD csA) [.xn "BadPrefix" ns ds, .cls "NoMatch"]) S) = Q (.bl false) S := isx (by decide +kernel)
theorem q_cnt4 : Rn Q E (kt (lcountD (.lst [.bl false, .bl false, .bl false, .bl false, .bl true, .bl false, .bl false, .bl false, .bl false, .bl false, .bl false, .bl false]) [.bl true]) S) = Q (.int 1) S := propext ⟨id, id⟩
theorem q_ixb4 : Rn Q E (kt (lindexB (.lst [.bl false, .bl false, .bl false, .bl false, .bl true, .bl false, .bl false, .bl false, .bl false, .bl false, .bl false, .bl false]) [.bl true]) S) = Q (.int 4) S := propext ⟨id, id⟩
theorem q_net5 : Rn Q E (kt (isiX xsA (isiD csA) [.xn "HostBits" ns ds, .cls "NetError"]) S) = Q (.bl true) S := isx (by decide +kernel)
theorem q_ve5 : Rn Q E (kt (isiX xsA (isiD csA) [.xn "HostBits" ns ds, .ty "ValueError"]) S) = Q (.bl true) S := isx (by decide +kernel)
theorem q_is5_0 : Rn Q E (kt (isiX xsA (isiD csA) [.xn "HostBits" ns ds, .cls "BadKind"]) S) = Q (.bl false) S := isx (by decide +kernel)
theorem q_is5_1 : Rn Q E (kt (isiX xsA (isiD csA) [.xn "HostBits" ns ds, .cls "BadNumber"]) S) = Q (.bl false) S := isx (by decide +kernel)
theorem q_is5_2 : Rn Q E (kt (isiX xsA (isiD csA) [.xn "HostBits" ns ds, .cls "BadText"]) S) = Q (.bl false) S := isx (by decide +kernel)
theorem q_is5_3 : Rn Q E (kt (isiX xsA (isiD csA) [.xn "HostBits" ns ds, .cls "BadBytes"]) S) = Q (.bl false) S := isx (by decide +kernel)
theorem q_is5_4 : Rn Q E (kt (isiX xsA (isiD csA) [.xn "HostBits" ns ds, .cls "BadPrefix"]) S) = Q (.bl false) S := isx (by decide +kernel)
theorem q_is5_5 : Rn Q E (kt (isiX xsA (isiD csA) [.xn "HostBits" ns ds, .cls "HostBits"]) S) = Q (.bl true) S := isx (by decide +kernel)
theorem q_is5_6 : Rn Q E (kt (isiX xsA (isiD csA) [.xn "HostBits" ns ds, .cls "Mixed"]) S) = Q (.bl false) S := isx (by decide +kernel)
theorem q_is5_7 : Rn Q E (kt (isiX xsA (isiD csA) [.xn "HostBits" ns ds, .cls "NotWithin"]) S) = Q (.bl false) S := isx (by decide +kernel)
theorem q_is5_8 : Rn Q E (kt (isiX xsA (isiD csA) [.xn "HostBits" ns ds, .cls "BadRange"]) S) = Q (.bl false) S := isx (by decide +kernel)
theorem q_is5_9 : Rn Q E (kt (isiX xsA (isiD csA) [.xn "HostBits" ns ds, .cls "BadWord"]) S) = Q (.bl false) S := isx (by decide +kernel)
theorem q_is5_10 : Rn Q E (kt (isiX xsA (isiD csA) [.xn "HostBits" ns ds, .cls "NotThere"]) S) = Q (.bl false) S := isx (by decide +kernel)
theorem q_is5_11 : Rn Q E (kt (isiX xsA (isiD csA) [.xn "HostBits" ns ds, .cls "NoMatch"]) S) = Q (.bl false) S := isx (by decide +kernel)
theorem q_cnt5 : Rn Q E (kt (lcountD (.lst [.bl false, .bl false, .bl false, .bl false, .bl false, .bl true, .bl false, .bl false, .bl false, .bl false, .bl false, .bl false]) [.bl true]) S) = Q (.int 1) S := propext ⟨id, id⟩
theorem q_ixb5 : Rn Q E (kt (lindexB (.lst [.bl false, .bl false, .bl false, .bl false, .bl false, .bl true, .bl false, .bl false, .bl false, .bl false, .bl false, .bl false]) [.bl true]) S) = Q (.int 5) S := propext ⟨id, id⟩
theorem q_net6 : Rn Q E (kt (isiX xsA (isiD csA) [.xn "Mixed" ns ds, .cls "NetError"]) S) = Q (.bl true) S := isx (by decide +kernel)
theorem q_ve6 : Rn Q E (kt (isiX xsA (isiD csA) [.xn "Mixed" ns ds, .ty "ValueError"]) S) = Q (.bl true) S := isx (by decide +kernel)
theorem q_is6_0 : Rn Q E (kt (isiX xsA (isiD csA) [.xn "Mixed" ns ds, .cls "BadKind"]) S) = Q (.bl false) S := isx (by decide +kernel)
theorem q_is6_1 : Rn Q E (kt (isiX xsA (isiD csA) [.xn "Mixed" ns ds, .cls "BadNumber"]) S) = Q (.bl false) S := isx (by decide +kernel)
theorem q_is6_2 : Rn Q E (kt (isiX xsA (isiD csA) [.xn "Mixed" ns ds, .cls "BadText"]) S) = Q (.bl false) S := isx (by decide +kernel)
theorem q_is6_3 : Rn Q E (kt (isiX xsA (isiD csA) [.xn "Mixed" ns ds, .cls "BadBytes"]) S) = Q (.bl false) S := isx (by decide +kernel)
theorem q_is6_4 : Rn Q E (kt (isiX xsA (isiD csA) [.xn "Mixed" ns ds, .cls "BadPrefix"]) S) = Q (.bl false) S := isx (by decide +kernel)
theorem q_is6_5 : Rn Q E (kt (isiX xsA (isiD csA) [.xn "Mixed" ns ds, .cls "HostBits"]) S) = Q (.bl false) S := isx (by decide +kernel)
theorem q_is6_6 : Rn Q E (kt (isiX xsA (isiD csA) [.xn "Mixed" ns ds, .cls "Mixed"]) S) = Q (.bl true) S := isx (by decide +kernel)
theorem q_is6_7 : Rn Q E (kt (isiX xsA (isiD csA) [.xn "Mixed" ns ds, .cls "NotWithin"]) S) = Q (.bl false) S := isx (by decide +kernel)
theorem q_is6_8 : Rn Q E (kt (isiX xsA (isiD csA) [.xn "Mixed" ns ds, .cls "BadRange"]) S) = Q (.bl false) S := isx (by decide +kernel)
theorem q_is6_9 : Rn Q E (kt (isiX xsA (isiD csA) [.xn "Mixed" ns ds, .cls "BadWord"]) S) = Q (.bl false) S := isx (by decide +kernel)
theorem q_is6_10 : Rn Q E (kt (isiX xsA (isiD csA) [.xn "Mixed" ns ds, .cls "NotThere"]) S) = Q (.bl false) S := isx (by decide +kernel)
theorem q_is6_11 : Rn Q E (kt (isiX xsA (isiD csA) [.xn "Mixed" ns ds, .cls "NoMatch"]) S) = Q (.bl false) S := isx (by decide +kernel)
theorem q_cnt6 : Rn Q E (kt (lcountD (.lst [.bl false, .bl false, .bl false, .bl false, .bl false, .bl false, .bl true, .bl false, .bl false, .bl false, .bl false, .bl false]) [.bl true]) S) = Q (.int 1) S := propext ⟨id, id⟩
theorem q_ixb6 : Rn Q E (kt (lindexB (.lst [.bl false, .bl false, .bl false, .bl false, .bl false, .bl false, .bl true, .bl false, .bl false, .bl false, .bl false, .bl false]) [.bl true]) S) = Q (.int 6) S := propext ⟨id, id⟩
theorem q_net7 : Rn Q E (kt (isiX xsA (isiD csA) [.xn "NotWithin" ns ds, .cls "NetError"]) S) = Q (.bl true) S := isx (by decide +kernel)
theorem q_ve7 : Rn Q E (kt (isiX xsA (isiD csA) [.xn "NotWithin" ns ds, .ty "ValueError"]) S) = Q (.bl true) S := isx (by decide +kernel)
theorem q_is7_0 : Rn Q E (kt (isiX xsA (isiD csA) [.xn "NotWithin" ns ds, .cls "BadKind"]) S) = Q (.bl false) S := isx (by decide +kernel)
theorem q_is7_1 : Rn Q E (kt (isiX xsA (isiD csA) [.xn "NotWithin" ns ds, .cls "BadNumber"]) S) = Q (.bl false) S := isx (by decide +kernel)
theorem q_is7_2 : Rn Q E (kt (isiX xsA (isiD csA) [.xn "NotWithin" ns ds, .cls "BadText"]) S) = Q (.bl false) S := isx (by decide +kernel)
theorem q_is7_3 : Rn Q E (kt (isiX xsA (isiD csA) [.xn "NotWithin" ns ds, .cls "BadBytes"]) S) = Q (.bl false) S := isx (by decide +kernel)
theorem q_is7_4 : Rn Q E (kt (isiX xsA (isiD csA) [.xn "NotWithin" ns ds, .cls "BadPrefix"]) S) = Q (.bl false) S := isx (by decide +kernel)
theorem q_is7_5 : Rn Q E (kt (isiX xsA (isiD csA) [.xn "NotWithin" ns ds, .cls "HostBits"]) S) = Q (.bl false) S := isx (by decide +kernel)
theorem q_is7_6 : Rn Q E (kt (isiX xsA (isiD csA) [.xn "NotWithin" ns ds, .cls "Mixed"]) S) = Q (.bl false) S := isx (by decide +kernel)
theorem q_is7_7 : Rn Q E (kt (isiX xsA (isiD csA) [.xn "NotWithin" ns ds, .cls "NotWithin"]) S) = Q (.bl true) S := isx (by decide +kernel)
theorem q_is7_8 : Rn Q E (kt (isiX xsA (isiD csA) [.xn "NotWithin" ns ds, .cls "BadRange"]) S) = Q (.bl false) S := isx (by decide +kernel)
theorem q_is7_9 : Rn Q E (kt (isiX xsA (isiD csA) [.xn "NotWithin" ns ds, .cls "BadWord"]) S) = Q (.bl false) S := isx (by decide +kernel)
theorem q_is7_10 : Rn Q E (kt (isiX xsA (isiD csA) [.xn "NotWithin" ns ds, .cls "NotThere"]) S) = Q (.bl false) S := isx (by decide +kernel)
theorem q_is7_11 : Rn Q E (kt (isiX xsA (isiD csA) [.xn "NotWithin" ns ds, .cls "NoMatch"]) S) = Q (.bl false) S := isx (by decide +kernel)
theorem q_cnt7 : Rn Q E (kt (lcountD (.lst [.bl false, .bl false, .bl false, .bl false, .bl false, .bl false, .bl false, .bl true, .bl false, .bl false, .bl false, .bl false]) [.bl true]) S) = Q (.int 1) S := propext ⟨id, id⟩
theorem q_ixb7 : Rn Q E (kt (lindexB (.lst [.bl false, .bl false, .bl false, .bl false, .bl false, .bl false, .bl false, .bl true, .bl false, .bl false, .bl false, .bl false]) [.bl true]) S) = Q (.int 7) S := propext ⟨id, id⟩
theorem q_net8 : Rn Q E (kt (isiX xsA (isiD csA) [.xn "BadRange" ns ds, .cls "NetError"]) S) = Q (.bl true) S := isx (by decide +kernel)
theorem q_ve8 : Rn Q E (kt (isiX xsA (isiD csA) [.xn "BadRange" ns ds, .ty "ValueError"]) S) = Q (.bl true) S := isx (by decide +kernel)
theorem q_is8_0 : Rn Q E (kt (isiX xsA (isiD csA) [.xn "BadRange" ns ds, .cls "BadKind"]) S) = Q (.bl false) S := isx (by decide +kernel)
theorem q_is8_1 : Rn Q E (kt (isiX xsA (isiD csA) [.xn "BadRange" ns ds, .cls "BadNumber"]) S) = Q (.bl false) S := isx (by decide +kernel)
theorem q_is8_2 : Rn Q E (kt (isiX xsA (isiD csA) [.xn "BadRange" ns ds, .cls "BadText"]) S) = Q (.bl false) S := isx (by decide +kernel)
theorem q_is8_3 : Rn Q E (kt (isiX xsA (isiD csA) [.xn "BadRange" ns ds, .cls "BadBytes"]) S) = Q (.bl false) S := isx (by decide +kernel)
theorem q_is8_4 : Rn Q E (kt (isiX xsA (isiD csA) [.xn "BadRange" ns ds, .cls "BadPrefix"]) S) = Q (.bl false) S := isx (by decide +kernel)
theorem q_is8_5 : Rn Q E (kt (isiX xsA (isiD csA) [.xn "BadRange" ns ds, .cls "HostBits"]) S) = Q (.bl false) S := isx (by decide +kernel)
theorem q_is8_6 : Rn Q E (kt (isiX xsA (isiD csA) [.xn "BadRange" ns ds, .cls "Mixed"]) S) = Q (.bl false) S := isx (by decide +kernel)
theorem q_is8_7 : Rn Q E (kt (isiX xsA (isiD csA) [.xn "BadRange" ns ds, .cls "NotWithin"]) S) = Q (.bl false) S := isx (by decide +kernel)
theorem q_is8_8 : Rn Q E (kt (isiX xsA (isiD csA) [.xn "BadRange" ns ds, .cls "BadRange"]) S) = Q (.bl true) S := isx (by decide +kernel)
theorem q_is8_9 : Rn Q E (kt (isiX xsA (isiD csA) [.xn "BadRange" ns ds, .cls "BadWord"]) S) = Q (.bl false) S := isx (by decide +kernel)
theorem q_is8_10 : Rn Q E (kt (isiX xsA (isiD csA) [.xn "BadRange" ns ds, .cls "NotThere"]) S) = Q (.bl false) S := isx (by decide +kernel)
theorem q_is8_11 : Rn Q E (kt (isiX xsA (isiD csA) [.xn "BadRange" ns ds, .cls "NoMatch"]) S) = Q (.bl false) S := isx (by decide +kernel)
theorem q_cnt8 : Rn Q E (kt (lcountD (.lst [.bl false, .bl false, .bl false, .bl false, .bl false, .bl false, .bl false, .bl false, .bl true, .bl false, .bl false, .bl false]) [.bl true]) S) = Q (.int 1) S := propext ⟨id, id⟩
theorem q_ixb8 : Rn Q E (kt (lindexB (.lst [.bl false, .bl false, .bl false, .bl false, .bl false, .bl false, .bl false, .bl false, .bl true, .bl false, .bl false, .bl false]) [.bl true]) S) = Q (.int 8) S := propext ⟨id, id⟩
theorem q_net9 : Rn Q E (kt (isiX xsA (isiD csA) [.xn "BadWord" ns ds, .cls "NetError"]) S) = Q (.bl true) S := isx (by decide +kernel)
theorem q_ve9 : Rn Q E (kt (isiX xsA (isiD csA) [.xn "BadWord" ns ds, .ty "ValueError"]) S) = Q (.bl true) S := isx (by decide +kernel)
theorem q_is9_0 : Rn Q E (kt (isiX xsA (isiD csA) [.xn "BadWord" ns ds, .cls "BadKind"]) S) = Q (.bl false) S := isx (by decide +kernel)
theorem q_is9_1 : Rn Q E (kt (isiX xsA (isiD csA) [.xn "BadWord" ns ds, .cls "BadNumber"]) S) = Q (.bl false) S := isx (by decide +kernel)
theorem q_is9_2 : Rn Q E (kt (isiX xsA (isiD csA) [.xn "BadWord" ns ds, .cls "BadText"]) S) = Q (.bl false) S := isx (by decide +kernel)
theorem q_is9_3 : Rn Q E (kt (isiX xsA (isiD csA) [.xn "BadWord" ns ds, .cls "BadBytes"]) S) = Q (.bl false) S := isx (by decide +kernel)
theorem q_is9_4 : Rn Q E (kt (isiX xsA (isiD csA) [.xn "BadWord" ns ds, .cls "BadPrefix"]) S) = Q (.bl false) S := isx (by decide +kernel)
theorem q_is9_5 : Rn Q E (kt (isiX xsA (isiD csA) [.xn "BadWord" ns ds, .cls "HostBits"]) S) = Q (.bl false) S := isx (by decide +kernel)
theorem q_is9_6 : Rn Q E (kt (isiX xsA (isiD csA) [.xn "BadWord" ns ds, .cls "Mixed"]) S) = Q (.bl false) S := isx (by decide +kernel)
theorem q_is9_7 : Rn Q E (kt (isiX xsA (isiD csA) [.xn "BadWord" ns ds, .cls "NotWithin"]) S) = Q (.bl false) S := isx (by decide +kernel)
theorem q_is9_8 : Rn Q E (kt (isiX xsA (isiD csA) [.xn "BadWord" ns ds, .cls "BadRange"]) S) = Q (.bl false) S := isx (by decide +kernel)
theorem q_is9_9 : Rn Q E (kt (isiX xsA (isiD csA) [.xn "BadWord" ns ds, .cls "BadWord"]) S) = Q (.bl true) S := isx (by decide +kernel)
theorem q_is9_10 : Rn Q E (kt (isiX xsA (isiD csA) [.xn "BadWord" ns ds, .cls "NotThere"]) S) = Q (.bl false) S := isx (by decide +kernel)
theorem q_is9_11 : Rn Q E (kt (isiX xsA (isiD csA) [.xn "BadWord" ns ds, .cls "NoMatch"]) S) = Q (.bl false) S := isx (by decide +kernel)
theorem q_cnt9 : Rn Q E (kt (lcountD (.lst [.bl false, .bl false, .bl false, .bl false, .bl false, .bl false, .bl false, .bl false, .bl false, .bl true, .bl false, .bl false]) [.bl true]) S) = Q (.int 1) S := propext ⟨id, id⟩
theorem q_ixb9 : Rn Q E (kt (lindexB (.lst [.bl false, .bl false, .bl false, .bl false, .bl false, .bl false, .bl false, .bl false, .bl false, .bl true, .bl false, .bl false]) [.bl true]) S) = Q (.int 9) S := propext ⟨id, id⟩
theorem q_net10 : Rn Q E (kt (isiX xsA (isiD csA) [.xn "NotThere" ns ds, .cls "NetError"]) S) = Q (.bl true) S := isx (by decide +kernel)
theorem q_ve10 : Rn Q E (kt (isiX xsA (isiD csA) [.xn "NotThere" ns ds, .ty "ValueError"]) S) = Q (.bl true) S := isx (by decide +kernel)
theorem q_is10_0 : Rn Q E (kt (isiX xsA (isiD csA) [.xn "NotThere" ns ds, .cls "BadKind"]) S) = Q (.bl false) S := isx (by decide +kernel)
theorem q_is10_1 : Rn Q E (kt (isiX xsA (isiD csA) [.xn "NotThere" ns ds, .cls "BadNumber"]) S) = Q (.bl false) S := isx (by decide +kernel)
theorem q_is10_2 : Rn Q E (kt (isiX xsA (isiD csA) [.xn "NotThere" ns ds, .cls "BadText"]) S) = Q (.bl false) S := isx (by decide +kernel)
theorem q_is10_3 : Rn Q E (kt (isiX xsA (isiD csA) [.xn "NotThere" ns ds, .cls "BadBytes"]) S) = Q (.bl false) S := isx (by decide +kernel)
theorem q_is10_4 : Rn Q E (kt (isiX xsA (isiD csA) [.xn "NotThere" ns ds, .cls "BadPrefix"]) S) = Q (.bl false) S := isx (by decide +kernel)
theorem q_is10_5 : Rn Q E (kt (isiX xsA (isiD csA) [.xn "NotThere" ns ds, .cls "HostBits"]) S) = Q (.bl false) S := isx (by decide +kernel)
theorem q_is10_6 : Rn Q E (kt (isiX xsA (isiD csA) [.xn "NotThere" ns ds, .cls "Mixed"]) S) = Q (.bl false) S := isx (by decide +kernel)
theorem q_is10_7 : Rn Q E (kt (isiX xsA (isiD csA) [.xn "NotThere" ns ds, .cls "NotWithin"]) S) = Q (.bl false) S := isx (by decide +kernel)
theorem q_is10_8 : Rn Q E (kt (isiX xsA (isiD csA) [.xn "NotThere" ns ds, .cls "BadRange"]) S) = Q (.bl false) S := isx (by decide +kernel)
theorem q_is10_9 : Rn Q E (kt (isiX xsA (isiD csA) [.xn "NotThere" ns ds, .cls "BadWord"]) S) = Q (.bl false) S := isx (by decide +kernel)
theorem q_is10_10 : Rn Q E (kt (isiX xsA (isiD csA) [.xn "NotThere" ns ds, .cls "NotThere"]) S) = Q (.bl true) S := isx (by decide +kernel)
theorem q_is10_11 : Rn Q E (kt (isiX xsA (isiD csA) [.xn "NotThere" ns ds, .cls "NoMatch"]) S) = Q (.bl false) S := isx (by decide +kernel)
theorem q_cnt10 : Rn Q E (kt (lcountD (.lst [.bl false, .bl false, .bl false, .bl false, .bl false, .bl false, .bl false, .bl false, .bl false, .bl false, .bl true, .bl false]) [.bl true]) S) = Q (.int 1) S := propext ⟨id, id⟩
theorem q_ixb10 : Rn Q E (kt (lindexB (.lst [.bl false, .bl false, .bl false, .bl false, .bl false, .bl false, .bl false, .bl false, .bl false, .bl false, .bl true, .bl false]) [.bl true]) S) = Q (.int 10) S := propext ⟨id, id⟩
theorem q_net11 : Rn Q E (kt (isiX xsA (isiD csA) [.xn "NoMatch" ns ds, .cls "NetError"]) S) = Q (.bl true) S := isx (by decide +kernel)
theorem q_ve11 : Rn Q E (kt (isiX xsA (isiD csA) [.xn "NoMatch" ns ds, .ty "ValueError"]) S) = Q (.bl true) S := isx (by decide +kernel)
theorem q_is11_0 : Rn Q E (kt (isiX xsA (isiD csA) [.xn "NoMatch" ns ds, .cls "BadKind"]) S) = Q (.bl false) S := isx (by decide +kernel)
theorem q_is11_1 : Rn Q E (kt (isiX xsA (isiD csA) [.xn "NoMatch" ns ds, .cls "BadNumber"]) S) = Q (.bl false) S := isx (by decide +kernel)
theorem q_is11_2 : Rn Q E (kt (isiX xsA (isiD csA) [.xn "NoMatch" ns ds, .cls "BadText"]) S) = Q (.bl false) S := isx (by decide +kernel)
theorem q_is11_3 : Rn Q E (kt (isiX xsA (isiD csA) [.xn "NoMatch" ns ds, .cls "BadBytes"]) S) = Q (.bl false) S := isx (by decide +kernel)
theorem q_is11_4 : Rn Q E (kt (isiX xsA (isiD csA) [.xn "NoMatch" ns ds, .cls "BadPrefix"]) S) = Q (.bl false) S := isx (by decide +kernel)
theorem q_is11_5 : Rn Q E (kt (isiX xsA (isiD csA) [.xn "NoMatch" ns ds, .cls "HostBits"]) S) = Q (.bl false) S := isx (by decide +kernel)
theorem q_is11_6 : Rn Q E (kt (isiX xsA (isiD csA) [.xn "NoMatch" ns ds, .cls "Mixed"]) S) = Q (.bl false) S := isx (by decide +kernel)
theorem q_is11_7 : Rn Q E (kt (isiX xsA (isiD csA) [.xn "NoMatch" ns ds, .cls "NotWithin"]) S) = Q (.bl false) S := isx (by decide +kernel)
theorem q_is11_8 : Rn Q E (kt (isiX xsA (isiD csA) [.xn "NoMatch" ns ds, .cls "BadRange"]) S) = Q (.bl false) S := isx (by decide +kernel)
theorem q_is11_9 : Rn Q E (kt (isiX xsA (isiD csA) [.xn "NoMatch" ns ds, .cls "BadWord"]) S) = Q (.bl false) S := isx (by decide +kernel)
theorem q_is11_10 : Rn Q E (kt (isiX xsA (isiD csA) [.xn "NoMatch" ns ds, .cls "NotThere"]) S) = Q (.bl false) S := isx (by decide +kernel)
theorem q_is11_11 : Rn Q E (kt (isiX xsA (isiD csA) [.xn "NoMatch" ns ds, .cls "NoMatch"]) S) = Q (.bl true) S := isx (by decide +kernel)
theorem q_cnt11 : Rn Q E (kt (lcountD (.lst [.bl false, .bl false, .bl false, .bl false, .bl false, .bl false, .bl false, .bl false, .bl false, .bl false, .bl false, .bl true]) [.bl true]) S) = Q (.int 1) S := propext ⟨id, id⟩
theorem q_ixb11 : Rn Q E (kt (lindexB (.lst [.bl false, .bl false, .bl false, .bl false, .bl false, .bl false, .bl false, .bl false, .bl false, .bl false, .bl false, .bl true]) [.bl true]) S) = Q (.int 11) S := propext ⟨id, id⟩

def Ss46 := And.intro (And.intro (And.intro (And.intro (And.intro (And.intro @q_xfV @q_xfW) (And.intro @q_xfL @q_xfP)) (And.intro (And.intro @q_xfT @q_xnI) (And.intro @q_xn0 @q_net0))) (And.intro (And.intro (And.intro @q_ve0 @q_is0_0) (And.intro @q_is0_1 @q_is0_2)) (And.intro (And.intro @q_is0_3 @q_is0_4) (And.intro @q_is0_5 @q_is0_6)))) (And.intro (And.intro (And.intro (And.intro @q_is0_7 @q_is0_8) (And.intro @q_is0_9 @q_is0_10)) (And.intro (And.intro @q_is0_11 @q_cnt0) (And.intro @q_ixb0 @q_net1))) (And.intro (And.intro (And.intro @q_ve1 @q_is1_0) (And.intro @q_is1_1 @q_is1_2)) (And.intro (And.intro @q_is1_3 @q_is1_4) (And.intro @q_is1_5 @q_is1_6))))) (And.intro (And.intro (And.intro (And.intro (And.intro @q_is1_7 @q_is1_8) (And.intro @q_is1_9 @q_is1_10)) (And.intro (And.intro @q_is1_11 @q_cnt1) (And.intro @q_ixb1 @q_net2))) (And.intro (And.intro (And.intro @q_ve2 @q_is2_0) (And.intro @q_is2_1 @q_is2_2)) (And.intro (And.intro @q_is2_3 @q_is2_4) (And.intro @q_is2_5 @q_is2_6)))) (And.intro (And.intro (And.intro (And.intro @q_is2_7 @q_is2_8) (And.intro @q_is2_9 @q_is2_10)) (And.intro (And.intro @q_is2_11 @q_cnt2) (And.intro @q_ixb2 @q_net3))) (And.intro (And.intro (And.intro @q_ve3 @q_is3_0) (And.intro @q_is3_1 @q_is3_2)) (And.intro (And.intro @q_is3_3 @q_is3_4) (And.intro @q_is3_5 @q_is3_6)))))
def Ss45 := And.intro (And.intro (And.intro (And.intro (And.intro (And.intro @q_is3_7 @q_is3_8) (And.intro @q_is3_9 @q_is3_10)) (And.intro (And.intro @q_is3_11 @q_cnt3) (And.intro @q_ixb3 @q_net4))) (And.intro (And.intro (And.intro @q_ve4 @q_is4_0) (And.intro @q_is4_1 @q_is4_2)) (And.intro (And.intro @q_is4_3 @q_is4_4) (And.intro @q_is4_5 @q_is4_6)))) (And.intro (And.intro (And.intro (And.intro @q_is4_7 @q_is4_8) (And.intro @q_is4_9 @q_is4_10)) (And.intro (And.intro @q_is4_11 @q_cnt4) (And.intro @q_ixb4 @q_net5))) (And.intro (And.intro (And.intro @q_ve5 @q_is5_0) (And.intro @q_is5_1 @q_is5_2)) (And.intro (And.intro @q_is5_3 @q_is5_4) (And.intro @q_is5_5 @q_is5_6))))) (And.intro (And.intro (And.intro (And.intro (And.intro @q_is5_7 @q_is5_8) (And.intro @q_is5_9 @q_is5_10)) (And.intro (And.intro @q_is5_11 @q_cnt5) (And.intro @q_ixb5 @q_net6))) (And.intro (And.intro (And.intro @q_ve6 @q_is6_0) (And.intro @q_is6_1 @q_is6_2)) (And.intro (And.intro @q_is6_3 @q_is6_4) (And.intro @q_is6_5 @q_is6_6)))) (And.intro (And.intro (And.intro (And.intro @q_is6_7 @q_is6_8) (And.intro @q_is6_9 @q_is6_10)) (And.intro (And.intro @q_is6_11 @q_cnt6) (And.intro @q_ixb6 @q_net7))) (And.intro (And.intro (And.intro @q_ve7 @q_is7_0) (And.intro @q_is7_1 @q_is7_2)) (And.intro (And.intro @q_is7_3 @q_is7_4) (And.intro @q_is7_5 @q_is7_6)))))
def Ss47 := And.intro (And.intro (And.intro (And.intro (And.intro (And.intro @q_is7_7 @q_is7_8) (And.intro @q_is7_9 @q_is7_10)) (And.intro (And.intro @q_is7_11 @q_cnt7) (And.intro @q_ixb7 @q_net8))) (And.intro (And.intro (And.intro @q_ve8 @q_is8_0) (And.intro @q_is8_1 @q_is8_2)) (And.intro (And.intro @q_is8_3 @q_is8_4) (And.intro @q_is8_5 @q_is8_6)))) (And.intro (And.intro (And.intro (And.intro @q_is8_7 @q_is8_8) (And.intro @q_is8_9 @q_is8_10)) (And.intro (And.intro @q_is8_11 @q_cnt8) (And.intro @q_ixb8 @q_net9))) (And.intro (And.intro (And.intro @q_ve9 @q_is9_0) (And.intro @q_is9_1 @q_is9_2)) (And.intro (And.intro @q_is9_3 @q_is9_4) (And.intro @q_is9_5 @q_is9_6))))) (And.intro (And.intro (And.intro (And.intro (And.intro @q_is9_7 @q_is9_8) (And.intro @q_is9_9 @q_is9_10)) (And.intro (And.intro @q_is9_11 @q_cnt9) (And.intro @q_ixb9 @q_net10))) (And.intro (And.intro (And.intro @q_ve10 @q_is10_0) (And.intro @q_is10_1 @q_is10_2)) (And.intro (And.intro @q_is10_3 @q_is10_4) (And.intro @q_is10_5 @q_is10_6)))) (And.intro (And.intro (And.intro (And.intro @q_is10_7 @q_is10_8) (And.intro @q_is10_9 @q_is10_10)) (And.intro (And.intro @q_is10_11 @q_cnt10) (And.intro @q_ixb10 @q_net11))) (And.intro (And.intro (And.intro @q_ve11 @q_is11_0) (And.intro @q_is11_1 @q_is11_2)) (And.intro (And.intro @q_is11_3 @q_is11_4) (And.intro @q_is11_5 @q_is11_6)))))
def Ss44 := And.intro (And.intro @q_is11_7 (And.intro @q_is11_8 @q_is11_9)) (And.intro (And.intro @q_is11_10 @q_is11_11) (And.intro @q_cnt11 @q_ixb11))
local macro_rules | `(tactic| walk_at "sk") => `(tactic| exact sk_lit (by decide +kernel))
local macro_rules | `(tactic| walk_at "sk") => `(tactic| (refine sk_app ?_ ?_ <;> walk_at "sk"))
local macro_rules | `(tactic| walk_at "sk") => `(tactic| assumption)
local macro_rules | `(tactic| walk_at "py") => `(tactic| repeat' first | exact pyl_nil | refine pyl_cons ?_ ?_ | exact py_int | exact py_non | exact py_bl | (refine py_str ?_; walk_at "sk") | refine py_tup ?_ | refine py_lst ?_ | (refine pyl_map fun _ _ => ?_) | refine pyl_app ?_ ?_)
local macro_rules | `(tactic| walk_at "sd") => `(tactic| first | assumption | omega | exact trivial | walk_at "sz" | exact cm_l (by omega) | exact cm_r (by omega) | exact cdivw (by omega) (by omega) | exact cshl (by omega) (by omega) (by omega) (by omega) | exact cshl_div (by omega) (by omega) (by omega) (by omega) | exact cpow10 | exact log_small (by omega) (by omega) | exact szL (by omega) | exact szL1 (by omega) | (exact szL (by simp only [List.length_cons, List.length_nil, List.length_map, List.length_append, List.length_replicate, List.length_range]; omega)) | (exact szL1 (by simp only [List.length_cons, List.length_nil, List.length_map, List.length_append, List.length_replicate, List.length_range]; omega)) | (exact szL (by simp only [Str_len_app, len_emp, len_slash]; omega)) | (refine And.intro ?_ ?_ <;> walk_at "sd") | (walk_at "py"; done) | ((simp only [↓Ss13, ↓Ss14, ↓Ss5, Ss8, ↓Ss17, ↓Ss0, ↓Ss12, ↓Ss3, Ss18, Ss2, ↓Ss10, Ss9, ↓Ss19, Ss20, Ss15, ↓Ss4, Ss7, Ss6, ↓Ss11, Ss16, ↓q_intDg, Ss1, ↓w_part_fault, w_part_fault, ↓w_quad_fault, w_quad_fault, ↓Ss21, Ss22, ↓w_quad_text, w_quad_text, ↓Ss24, Ss23, ↓Ss25, Ss26, ↓w_has_wrong_quad, w_has_wrong_quad, ↓Ss27, w_parts_of, ↓Ss28, Ss29, ↓w_groups_fault, w_groups_fault, Ss30, ↓Ss31, Ss32, Ss33, ↓Ss34, Ss35, ↓w_groups_text, w_groups_text, Ss36, ↓u_is_integer, ↓u_is_from, ↓Ss38, Ss37, ↓u_is_integer, ↓u_is_from, ↓Ss39, Ss42, Ss43, ↓u_is_integer, ↓u_is_from, ↓Ss41, ↓Ss40, ↓Ss46, ↓Ss45, ↓Ss47, ↓Ss44, z_at5, List.length_cons, List.length_nil, List.length_map, List.length_append, List.length_replicate, List.length_range, List.length_drop, List.length_take, Nat.reduceLeDiff, Nat.reduceAdd, Int.reduceToNat, Int.reducePow]) <;> omega) | decide +kernel)
local macro_rules | `(tactic| walk_at "x") => `(tactic| simp (maxSteps := 10000000) (disch := walk_at "sd") only [↓Ss13, ↓Ss14, ↓Ss5, Ss8, ↓Ss17, ↓Ss0, ↓Ss12, ↓Ss3, Ss18, Ss2, ↓Ss10, Ss9, ↓Ss19, Ss20, Ss15, ↓Ss4, Ss7, Ss6, ↓Ss11, Ss16, ↓q_intDg, Ss1, ↓w_part_fault, w_part_fault, ↓w_quad_fault, w_quad_fault, ↓Ss21, Ss22, ↓w_quad_text, w_quad_text, ↓Ss24, Ss23, ↓Ss25, Ss26, ↓w_has_wrong_quad, w_has_wrong_quad, ↓Ss27, w_parts_of, ↓Ss28, Ss29, ↓w_groups_fault, w_groups_fault, Ss30, ↓Ss31, Ss32, Ss33, ↓Ss34, Ss35, ↓w_groups_text, w_groups_text, Ss36, ↓u_is_integer, ↓u_is_from, ↓Ss38, Ss37, ↓Ss39, Ss42, Ss43, ↓Ss41, ↓Ss40, ↓Ss46, ↓Ss45, ↓Ss47, ↓Ss44, z_at5, eq_self, Int.one_mul, Int.zero_add, Int.add_zero, Int.sub_zero, and_self, and_true, true_and, Int.reduceAdd, Int.reduceSub, Int.reduceMul, Int.reduceNeg, Int.reducePow, Int.reduceToNat, Int.reduceEq, Int.reduceLT, Int.reduceLE, Int.reduceDiv, Int.reduceMod, Nat.reduceAdd, Nat.reduceSub, Nat.reduceMul, Nat.reducePow, Nat.reduceEqDiff, Nat.reduceLT, Bool.not_true, Bool.not_false, decide_true, decide_false, Bool.and_true, Bool.true_and, Bool.and_false, Bool.false_and, Bool.or_true, Bool.true_or, Bool.or_false, Bool.false_or, Bool.not_not, List.map_cons, List.map_nil, List.cons_append, List.nil_append, List.length_cons, List.length_nil, List.length_map, List.isEmpty_nil, List.isEmpty_cons, List.isEmpty_map, Option.isNone_some, Option.isNone_none, Option.isSome_some, Option.isSome_none, Option.getD_some, Option.getD_none])
local macro_rules | `(tactic| walk_at "bt") => `(tactic| repeat' (first | walk_at "x" | with_reducible refine eqD (fun _ => ?_) (fun _ => ?_) | with_reducible refine eqB' (fun _ => ?_) (fun _ => ?_)))
local macro_rules | `(tactic| walk_at "br") => `(tactic| repeat' (first | walk_at "x" | with_reducible refine iteD (fun _ => ?_) (fun _ => ?_) | with_reducible refine iteB (fun _ => ?_) (fun _ => ?_)))
local macro_rules | `(tactic| walk_at "q") => `(tactic| walk_at "x")

theorem w__law_marks'0 : Rn Q E (kt (d__law_marks [.xn "BadKind" ns ds]) S) = Q (.lst [.bl true, .bl false, .bl false, .bl false, .bl false, .bl false, .bl false, .bl false, .bl false, .bl false, .bl false, .bl false]) S := by
  rw [u__law_marks]
  walk_at "x"
theorem w__law_marks'1 : Rn Q E (kt (d__law_marks [.xn "BadNumber" ns ds]) S) = Q (.lst [.bl false, .bl true, .bl false, .bl false, .bl false, .bl false, .bl false, .bl false, .bl false, .bl false, .bl false, .bl false]) S := by
  rw [u__law_marks]
  walk_at "x"
theorem w__law_marks'2 : Rn Q E (kt (d__law_marks [.xn "BadText" ns ds]) S) = Q (.lst [.bl false, .bl false, .bl true, .bl false, .bl false, .bl false, .bl false, .bl false, .bl false, .bl false, .bl false, .bl false]) S := by
  rw [u__law_marks]
  walk_at "x"
theorem w__law_marks'3 : Rn Q E (kt (d__law_marks [.xn "BadBytes" ns ds]) S) = Q (.lst [.bl false, .bl false, .bl false, .bl true, .bl false, .bl false, .bl false, .bl false, .bl false, .bl false, .bl false, .bl false]) S := by
  rw [u__law_marks]
  walk_at "x"
theorem w__law_marks'4 : Rn Q E (kt (d__law_marks [.xn "BadPrefix" ns ds]) S) = Q (.lst [.bl false, .bl false, .bl false, .bl false, .bl true, .bl false, .bl false, .bl false, .bl false, .bl false, .bl false, .bl false]) S := by
  rw [u__law_marks]
  walk_at "x"
theorem w__law_marks'5 : Rn Q E (kt (d__law_marks [.xn "HostBits" ns ds]) S) = Q (.lst [.bl false, .bl false, .bl false, .bl false, .bl false, .bl true, .bl false, .bl false, .bl false, .bl false, .bl false, .bl false]) S := by
  rw [u__law_marks]
  walk_at "x"
theorem w__law_marks'6 : Rn Q E (kt (d__law_marks [.xn "Mixed" ns ds]) S) = Q (.lst [.bl false, .bl false, .bl false, .bl false, .bl false, .bl false, .bl true, .bl false, .bl false, .bl false, .bl false, .bl false]) S := by
  rw [u__law_marks]
  walk_at "x"
theorem w__law_marks'7 : Rn Q E (kt (d__law_marks [.xn "NotWithin" ns ds]) S) = Q (.lst [.bl false, .bl false, .bl false, .bl false, .bl false, .bl false, .bl false, .bl true, .bl false, .bl false, .bl false, .bl false]) S := by
  rw [u__law_marks]
  walk_at "x"
theorem w__law_marks'8 : Rn Q E (kt (d__law_marks [.xn "BadRange" ns ds]) S) = Q (.lst [.bl false, .bl false, .bl false, .bl false, .bl false, .bl false, .bl false, .bl false, .bl true, .bl false, .bl false, .bl false]) S := by
  rw [u__law_marks]
  walk_at "x"
theorem w__law_marks'9 : Rn Q E (kt (d__law_marks [.xn "BadWord" ns ds]) S) = Q (.lst [.bl false, .bl false, .bl false, .bl false, .bl false, .bl false, .bl false, .bl false, .bl false, .bl true, .bl false, .bl false]) S := by
  rw [u__law_marks]
  walk_at "x"
theorem w__law_marks'10 : Rn Q E (kt (d__law_marks [.xn "NotThere" ns ds]) S) = Q (.lst [.bl false, .bl false, .bl false, .bl false, .bl false, .bl false, .bl false, .bl false, .bl false, .bl false, .bl true, .bl false]) S := by
  rw [u__law_marks]
  walk_at "x"
theorem w__law_marks'11 : Rn Q E (kt (d__law_marks [.xn "NoMatch" ns ds]) S) = Q (.lst [.bl false, .bl false, .bl false, .bl false, .bl false, .bl false, .bl false, .bl false, .bl false, .bl false, .bl false, .bl true]) S := by
  rw [u__law_marks]
  walk_at "x"
end

def Ss49 := And.intro (And.intro (And.intro @w__law_marks'0 (And.intro @w__law_marks'1 @w__law_marks'2)) (And.intro @w__law_marks'3 (And.intro @w__law_marks'4 @w__law_marks'5))) (And.intro (And.intro @w__law_marks'6 (And.intro @w__law_marks'7 @w__law_marks'8)) (And.intro @w__law_marks'9 (And.intro @w__law_marks'10 @w__law_marks'11)))
def Ss48 := And.intro (And.intro (And.intro @w__law_marks'0 (And.intro @w__law_marks'1 @w__law_marks'2)) (And.intro @w__law_marks'3 (And.intro @w__law_marks'4 @w__law_marks'5))) (And.intro (And.intro @w__law_marks'6 (And.intro @w__law_marks'7 @w__law_marks'8)) (And.intro @w__law_marks'9 (And.intro @w__law_marks'10 @w__law_marks'11)))
end Dn

set_option Elab.async false
set_option linter.all false
set_option maxRecDepth 100000
set_option maxHeartbeats 4000000
set_option pp.deepTerms false
set_option pp.deepTerms.threshold 5
set_option pp.maxSteps 1500

namespace Dn
open PySem PySem.W PySem.Spec PyProof.Rows L2 TL Bits An
theorem len_rng {k b : Nat} {l r : List Nat} (e : List.range k = l ++ b :: r) : l.length = b ∧ b < k := by
  have h := congrArg (·[l.length]?) e
  have hl := congrArg List.length e
  rw [List.length_range, List.length_append, List.length_cons] at hl
  simp only [List.getElem?_append_right (Nat.le_refl _), Nat.sub_self, List.getElem?_cons_zero] at h
  rw [List.getElem?_range (by omega)] at h
  have := Option.some.inj h
  omega
section
variable {S : Sv} {Q : D → Sv → Prop} {E : Xn → Sv → Prop}
theorem num4 (h : ∀ n : Int, Nv 4 n → Q (.int n) S) : Rn Q E (kt (d__law_number [.src, .int 32]) S) := number (v := 4) (.inl rfl) h
theorem num6 (h : ∀ n : Int, Nv 6 n → Q (.int n) S) : Rn Q E (kt (d__law_number [.src, .int 128]) S) := number (v := 6) (.inr rfl) h
def RpD (d : D) (z : Str) : Prop := ∀ (S : Sv) (Q : D → Sv → Prop) (E : Xn → Sv → Prop), Rn Q E (kt (reprD [d]) S) = Q (.str z) S
theorem q_rpD {d : D} {z : Str} (h : RpD d z) : Rn Q E (kt (reprD [d]) S) = Q (.str z) S := h S Q E
theorem sk_num {p : Int} (h : 0 ≤ p) : StrK (numS p) := fun c m => by
  have := numL_digits p.toNat c (by rw [numS_tl h] at m; exact m)
  omega
theorem repr8 : Rn Q E (kt (reprD [.str "8"]) S) = Q (.str (PySem.reprText "8")) S := propext ⟨fun z => z.2, fun z => ⟨by decide +kernel, z⟩⟩


local macro_rules | `(tactic| walk_at "sk") => `(tactic| exact sk_lit (by decide +kernel))
local macro_rules | `(tactic| walk_at "sk") => `(tactic| (refine sk_app ?_ ?_ <;> walk_at "sk"))
local macro_rules | `(tactic| walk_at "sk") => `(tactic| assumption)
local macro_rules | `(tactic| walk_at "py") => `(tactic| repeat' first | exact pyl_nil | refine pyl_cons ?_ ?_ | exact py_int | exact py_non | exact py_bl | (refine py_str ?_; walk_at "sk") | refine py_tup ?_ | refine py_lst ?_ | (refine pyl_map fun _ _ => ?_) | refine pyl_app ?_ ?_)
local macro_rules | `(tactic| walk_at "sd") => `(tactic| first | assumption | omega | exact trivial | walk_at "sz" | exact cm_l (by omega) | exact cm_r (by omega) | exact cdivw (by omega) (by omega) | exact cshl (by omega) (by omega) (by omega) (by omega) | exact cshl_div (by omega) (by omega) (by omega) (by omega) | exact cpow10 | exact log_small (by omega) (by omega) | exact szL (by omega) | exact szL1 (by omega) | (exact szL (by simp only [List.length_cons, List.length_nil, List.length_map, List.length_append, List.length_replicate, List.length_range]; omega)) | (exact szL1 (by simp only [List.length_cons, List.length_nil, List.length_map, List.length_append, List.length_replicate, List.length_range]; omega)) | (exact szL (by simp only [Str_len_app, len_emp, len_slash]; omega)) | (refine And.intro ?_ ?_ <;> walk_at "sd") | (walk_at "py"; done) | ((simp only [↓Ss13, ↓Ss14, ↓Ss5, Ss8, ↓Ss17, ↓Ss0, ↓Ss12, ↓Ss3, Ss18, Ss2, ↓Ss10, Ss9, ↓Ss19, Ss20, Ss15, ↓Ss4, Ss7, Ss6, ↓Ss11, Ss16, ↓q_intDg, Ss1, ↓w_part_fault, w_part_fault, ↓w_quad_fault, w_quad_fault, ↓Ss21, Ss22, ↓w_quad_text, w_quad_text, ↓Ss24, Ss23, ↓Ss25, Ss26, ↓w_has_wrong_quad, w_has_wrong_quad, ↓Ss27, w_parts_of, ↓Ss28, Ss29, ↓w_groups_fault, w_groups_fault, Ss30, ↓Ss31, Ss32, Ss33, ↓Ss34, Ss35, ↓w_groups_text, w_groups_text, Ss36, ↓u_is_integer, ↓u_is_from, ↓Ss38, Ss37, ↓u_is_integer, ↓u_is_from, ↓Ss39, Ss42, Ss43, ↓u_is_integer, ↓u_is_from, ↓Ss41, ↓Ss40, ↓Ss46, ↓Ss45, ↓Ss47, ↓Ss44, z_at5, ↓Ss49, Ss48, ↓q_rpD, List.length_cons, List.length_nil, List.length_map, List.length_append, List.length_replicate, List.length_range, List.length_drop, List.length_take, Nat.reduceLeDiff, Nat.reduceAdd, Int.reduceToNat, Int.reducePow]) <;> omega) | decide +kernel)
local macro_rules | `(tactic| walk_at "x") => `(tactic| simp (maxSteps := 10000000) (disch := walk_at "sd") only [↓Ss13, ↓Ss14, ↓Ss5, Ss8, ↓Ss17, ↓Ss0, ↓Ss12, ↓Ss3, Ss18, Ss2, ↓Ss10, Ss9, ↓Ss19, Ss20, Ss15, ↓Ss4, Ss7, Ss6, ↓Ss11, Ss16, ↓q_intDg, Ss1, ↓w_part_fault, w_part_fault, ↓w_quad_fault, w_quad_fault, ↓Ss21, Ss22, ↓w_quad_text, w_quad_text, ↓Ss24, Ss23, ↓Ss25, Ss26, ↓w_has_wrong_quad, w_has_wrong_quad, ↓Ss27, w_parts_of, ↓Ss28, Ss29, ↓w_groups_fault, w_groups_fault, Ss30, ↓Ss31, Ss32, Ss33, ↓Ss34, Ss35, ↓w_groups_text, w_groups_text, Ss36, ↓u_is_integer, ↓u_is_from, ↓Ss38, Ss37, ↓Ss39, Ss42, Ss43, ↓Ss41, ↓Ss40, ↓Ss46, ↓Ss45, ↓Ss47, ↓Ss44, z_at5, ↓Ss49, Ss48, ↓q_rpD, eq_self, Int.one_mul, Int.zero_add, Int.add_zero, Int.sub_zero, and_self, and_true, true_and, Int.reduceAdd, Int.reduceSub, Int.reduceMul, Int.reduceNeg, Int.reducePow, Int.reduceToNat, Int.reduceEq, Int.reduceLT, Int.reduceLE, Int.reduceDiv, Int.reduceMod, Nat.reduceAdd, Nat.reduceSub, Nat.reduceMul, Nat.reducePow, Nat.reduceEqDiff, Nat.reduceLT, Bool.not_true, Bool.not_false, decide_true, decide_false, Bool.and_true, Bool.true_and, Bool.and_false, Bool.false_and, Bool.or_true, Bool.true_or, Bool.or_false, Bool.false_or, Bool.not_not, List.map_cons, List.map_nil, List.cons_append, List.nil_append, List.length_cons, List.length_nil, List.length_map, List.isEmpty_nil, List.isEmpty_cons, List.isEmpty_map, Option.isNone_some, Option.isNone_none, Option.isSome_some, Option.isSome_none, Option.getD_some, Option.getD_none])
local macro_rules | `(tactic| walk_at "bt") => `(tactic| repeat' (first | walk_at "x" | with_reducible refine eqD (fun _ => ?_) (fun _ => ?_) | with_reducible refine eqB' (fun _ => ?_) (fun _ => ?_)))
local macro_rules | `(tactic| walk_at "br") => `(tactic| repeat' (first | walk_at "x" | with_reducible refine iteD (fun _ => ?_) (fun _ => ?_) | with_reducible refine iteB (fun _ => ?_) (fun _ => ?_)))
local macro_rules | `(tactic| walk_at "q") => `(tactic| walk_at "x")

theorem law_pure : LawPure := by
  intro ns hns
  refine rn_out (m := d_law [.scr (ns.map .int)]) ?_
  rw [u_law]
  walk_at "x"
  refine lp_st (σ := Unit) (fun _ => [.sh (.scr (ns.map .int)), .un, .un, .un, .un, .un, .un, .un, .un, .un, .un]) (fun _ _ _ => True) () rfl trivial (fun l k r x N e _ hN => ?_) (fun x _ => ?_)
  · have hk2 : k < 63 := by
      have := (len_rng e).2
      omega
    walk_at "x"
    refine source (by omega) (by omega) hns ?_
    walk_at "x"
    refine num6 fun n hn => ?_
    walk_at "x"
    refine draw (by omega) (by omega) fun a a0 a1 => ?_
    walk_at "x"
    refine draw (by omega) (by omega) fun b b0 b1 => ?_
    walk_at "x"
    refine pickL b0 b1 fun d hd => ?_
    obtain ⟨z, hz, kz⟩ : ∃ z : Str, RpD d z ∧ StrK z := by
      simp only [List.mem_cons, List.not_mem_nil, or_false] at hd
      rcases hd with rfl | rfl | rfl | rfl | rfl
      · exact ⟨_, fun _ _ _ => q_reprI (by omega) (by omega), sk_num (by omega)⟩
      · exact ⟨_, fun _ _ _ => q_reprI (by omega) (by omega), sk_lit (by decide +kernel)⟩
      · exact ⟨_, fun _ _ _ => q_reprN, sk_lit (by decide +kernel)⟩
      · exact ⟨_, fun _ _ _ => repr8, sk_lit (by decide +kernel)⟩
      · exact ⟨_, fun _ _ _ => q_reprB, sk_lit (by decide +kernel)⟩
    clear hd
    walk_at "x"
    refine num4 fun m hm => ?_
    walk_at "x"
    refine draw (by omega) (by omega) fun c c0 c1 => ?_
    walk_at "x"
    refine pickL c0 c1 fun t ht => ?_
    have ht : t = Ad 4 m ∨ t = Ad 6 n := by simpa using ht
    walk_at "x"
    refine draw (by omega) (by omega) fun g g0 g1 => ?_
    walk_at "x"
    refine pickL g0 g1 fun y hy => ?_
    obtain ⟨u, rfl, ku⟩ : ∃ u : Str, y = .str u ∧ StrK u := by
      simp only [List.mem_cons, List.not_mem_nil, or_false] at hy
      rcases hy with rfl | rfl | rfl | rfl <;> exact ⟨_, rfl, sk_lit (by decide +kernel)⟩
    clear hy
    walk_at "x"
    with_reducible refine lp_any (fun e he N2 hN2 => ?_) ?_
    · change e ∈ [D.tup [.int 0, .xn "BadKind" [] []], D.tup [.int 1, .xn "BadNumber" ["value"] [.int n]], D.tup [.int 2, .xn "BadText" ["why"] [.str u]], D.tup [.int 3, .xn "BadBytes" ["length"] [.int n]], D.tup [.int 4, .xn "BadPrefix" ["length"] [d]], D.tup [.int 5, .xn "HostBits" ["told"] [t]], D.tup [.int 6, .xn "Mixed" [] []], D.tup [.int 7, .xn "NotWithin" [] []], D.tup [.int 8, .xn "BadRange" [] []], D.tup [.int 9, .xn "BadWord" [] []], D.tup [.int 10, .xn "NotThere" [] []], D.tup [.int 11, .xn "NoMatch" [] []]] at he
      simp only [List.mem_cons, List.not_mem_nil, or_false] at he
      rcases he with rfl | rfl | rfl | rfl | rfl | rfl | rfl | rfl | rfl | rfl | rfl | rfl
      all_goals
        walk_at "x"
        exact hN2
    · rcases ht with rfl | rfl
      · walk_at "x"
        exact hN () trivial
      · walk_at "x"
        exact hN () trivial
  · walk_at "x"
end


end Dn

namespace Dn
open PySem PySem.W PySem.Spec PyProof.Rows L2 TL Bits An
structure Tx (K : Frag) (mg : Str → Option Value) : Prop where
  kp__law_source : keepIn K (.ref (He.ga K "_law_source")) = true
  g__law_source : mg "_law_source" = some (.ref (He.ga K "_law_source"))
  d__law_source : FnS K "_law_source" "_law_source" (top 48) (He.ga K "_law_source")
  f_len : mg "len" = none
  kp__law_mix : keepIn K (.ref (He.ga K "_law_mix")) = true
  g__law_mix : mg "_law_mix" = some (.ref (He.ga K "_law_mix"))
  d__law_mix : FnS K "_law_mix" "_law_mix" (top 47) (He.ga K "_law_mix")
  f_int : mg "int" = none
  kp__law_draw : keepIn K (.ref (He.ga K "_law_draw")) = true
  g__law_draw : mg "_law_draw" = some (.ref (He.ga K "_law_draw"))
  d__law_draw : FnS K "_law_draw" "_law_draw" (top 49) (He.ga K "_law_draw")
  kp__law_number : keepIn K (.ref (He.ga K "_law_number")) = true
  g__law_number : mg "_law_number" = some (.ref (He.ga K "_law_number"))
  d__law_number : FnS K "_law_number" "_law_number" (top 50) (He.ga K "_law_number")
  f_min : mg "min" = none
  f_range : mg "range" = none
  c_Address4 : Cls K (He.ga K "Address4")
  na_Address4__number : NoAttr K (He.ga K "Address4") "number"
  c_Address6 : Cls K (He.ga K "Address6")
  na_Address6__number : NoAttr K (He.ga K "Address6") "number"
  kp_is_integer : keepIn K (.ref (He.ga K "is_integer")) = true
  g_is_integer : mg "is_integer" = some (.ref (He.ga K "is_integer"))
  d_is_integer : FnS K "is_integer" "is_integer" (top 40) (He.ga K "is_integer")
  f_isinstance : mg "isinstance" = none
  f_bool : mg "bool" = none
  kp_is_from : keepIn K (.ref (He.ga K "is_from")) = true
  g_is_from : mg "is_from" = some (.ref (He.ga K "is_from"))
  d_is_from : FnS K "is_from" "is_from" (top 41) (He.ga K "is_from")
  g_BadNumber : mg "BadNumber" = some (.ref (He.ga K "BadNumber"))
  dm_BadNumber____init__ : FnS K "__init__" "BadNumber.__init__" (inClass (top 4) 0) (He.ma K (He.ga K "BadNumber") "__init__")
  kp_part_fault : keepIn K (.ref (He.ga K "part_fault")) = true
  g_part_fault : mg "part_fault" = some (.ref (He.ga K "part_fault"))
  d_part_fault : FnS K "part_fault" "part_fault" (top 17) (He.ga K "part_fault")
  f_all : mg "all" = none
  s_DIGITS : ∃ t, mg "DIGITS" = some (.str "0123456789" t)
  kp_quad_fault : keepIn K (.ref (He.ga K "quad_fault")) = true
  g_quad_fault : mg "quad_fault" = some (.ref (He.ga K "quad_fault"))
  d_quad_fault : FnS K "quad_fault" "quad_fault" (top 18) (He.ga K "quad_fault")
  g_BadText : mg "BadText" = some (.ref (He.ga K "BadText"))
  dm_BadText____init__ : FnS K "__init__" "BadText.__init__" (inClass (top 5) 0) (He.ma K (He.ga K "BadText") "__init__")
  kp_read_quad : keepIn K (.ref (He.ga K "read_quad")) = true
  g_read_quad : mg "read_quad" = some (.ref (He.ga K "read_quad"))
  d_read_quad : FnS K "read_quad" "read_quad" (top 19) (He.ga K "read_quad")
  kp_quad_place : keepIn K (.ref (He.ga K "quad_place")) = true
  g_quad_place : mg "quad_place" = some (.ref (He.ga K "quad_place"))
  d_quad_place : FnS K "quad_place" "quad_place" (top 24) (He.ga K "quad_place")
  kp_has_wrong_quad : keepIn K (.ref (He.ga K "has_wrong_quad")) = true
  g_has_wrong_quad : mg "has_wrong_quad" = some (.ref (He.ga K "has_wrong_quad"))
  d_has_wrong_quad : FnS K "has_wrong_quad" "has_wrong_quad" (top 25) (He.ga K "has_wrong_quad")
  kp_has_wrong_gaps : keepIn K (.ref (He.ga K "has_wrong_gaps")) = true
  g_has_wrong_gaps : mg "has_wrong_gaps" = some (.ref (He.ga K "has_wrong_gaps"))
  d_has_wrong_gaps : FnS K "has_wrong_gaps" "has_wrong_gaps" (top 26) (He.ga K "has_wrong_gaps")
  kp_has_wrong_ends : keepIn K (.ref (He.ga K "has_wrong_ends")) = true
  g_has_wrong_ends : mg "has_wrong_ends" = some (.ref (He.ga K "has_wrong_ends"))
  d_has_wrong_ends : FnS K "has_wrong_ends" "has_wrong_ends" (top 27) (He.ga K "has_wrong_ends")
  kp_hex_groups : keepIn K (.ref (He.ga K "hex_groups")) = true
  g_hex_groups : mg "hex_groups" = some (.ref (He.ga K "hex_groups"))
  d_hex_groups : FnS K "hex_groups" "hex_groups" (top 28) (He.ga K "hex_groups")
  kp_parts_of : keepIn K (.ref (He.ga K "parts_of")) = true
  g_parts_of : mg "parts_of" = some (.ref (He.ga K "parts_of"))
  d_parts_of : FnS K "parts_of" "parts_of" (top 29) (He.ga K "parts_of")
  kp_has_wrong_count : keepIn K (.ref (He.ga K "has_wrong_count")) = true
  g_has_wrong_count : mg "has_wrong_count" = some (.ref (He.ga K "has_wrong_count"))
  d_has_wrong_count : FnS K "has_wrong_count" "has_wrong_count" (top 30) (He.ga K "has_wrong_count")
  kp_groups_fault : keepIn K (.ref (He.ga K "groups_fault")) = true
  g_groups_fault : mg "groups_fault" = some (.ref (He.ga K "groups_fault"))
  d_groups_fault : FnS K "groups_fault" "groups_fault" (top 31) (He.ga K "groups_fault")
  s_HEX : ∃ t, mg "HEX" = some (.str "0123456789abcdef" t)
  kp_hex_number : keepIn K (.ref (He.ga K "hex_number")) = true
  g_hex_number : mg "hex_number" = some (.ref (He.ga K "hex_number"))
  d_hex_number : FnS K "hex_number" "hex_number" (top 32) (He.ga K "hex_number")
  kp_read_groups : keepIn K (.ref (He.ga K "read_groups")) = true
  g_read_groups : mg "read_groups" = some (.ref (He.ga K "read_groups"))
  d_read_groups : FnS K "read_groups" "read_groups" (top 33) (He.ga K "read_groups")
  g_BadBytes : mg "BadBytes" = some (.ref (He.ga K "BadBytes"))
  dm_BadBytes____init__ : FnS K "__init__" "BadBytes.__init__" (inClass (top 6) 0) (He.ma K (He.ga K "BadBytes") "__init__")
  kp_number_of : keepIn K (.ref (He.ga K "number_of")) = true
  g_number_of : mg "number_of" = some (.ref (He.ga K "number_of"))
  d_number_of : FnS K "number_of" "number_of" (top 43) (He.ga K "number_of")
  f_str : mg "str" = none
  i_WIDTH4 : ∃ t, mg "WIDTH4" = some (.int 32 t)
  f_bytes : mg "bytes" = none
  g_BadKind : mg "BadKind" = some (.ref (He.ga K "BadKind"))
  dm_Address4____init__ : FnS K "__init__" "Address4.__init__" (inClass (top 44) 2) (He.ma K (He.ga K "Address4") "__init__")
  g_Address4 : mg "Address4" = some (.ref (He.ga K "Address4"))
  mk_Address4 : Mk K (He.ga K "Address4") (He.ma K (He.ga K "Address4") "__init__")
  dm_Address6____init__ : FnS K "__init__" "Address6.__init__" (inClass (top 45) 2) (He.ma K (He.ga K "Address6") "__init__")
  g_Address6 : mg "Address6" = some (.ref (He.ga K "Address6"))
  i_WIDTH6 : ∃ t, mg "WIDTH6" = some (.int 128 t)
  mk_Address6 : Mk K (He.ga K "Address6") (He.ma K (He.ga K "Address6") "__init__")
  g_BadPrefix : mg "BadPrefix" = some (.ref (He.ga K "BadPrefix"))
  dm_BadPrefix____init__ : FnS K "__init__" "BadPrefix.__init__" (inClass (top 7) 0) (He.ma K (He.ga K "BadPrefix") "__init__")
  g_HostBits : mg "HostBits" = some (.ref (He.ga K "HostBits"))
  dm_HostBits____init__ : FnS K "__init__" "HostBits.__init__" (inClass (top 8) 0) (He.ma K (He.ga K "HostBits") "__init__")
  kp__law_marks : keepIn K (.ref (He.ga K "_law_marks")) = true
  g__law_marks : mg "_law_marks" = some (.ref (He.ga K "_law_marks"))
  d__law_marks : FnS K "_law_marks" "_law_marks" (top 51) (He.ga K "_law_marks")
  g_Mixed : mg "Mixed" = some (.ref (He.ga K "Mixed"))
  g_NotWithin : mg "NotWithin" = some (.ref (He.ga K "NotWithin"))
  g_BadRange : mg "BadRange" = some (.ref (He.ga K "BadRange"))
  g_BadWord : mg "BadWord" = some (.ref (He.ga K "BadWord"))
  g_NotThere : mg "NotThere" = some (.ref (He.ga K "NotThere"))
  g_NoMatch : mg "NoMatch" = some (.ref (He.ga K "NoMatch"))
  dm_Address4____eq__ : FnS K "__eq__" "Address4.__eq__" (inClass (top 44) 13) (He.ma K (He.ga K "Address4") "__eq__")
  dm_Address6____eq__ : FnS K "__eq__" "Address6.__eq__" (inClass (top 45) 14) (He.ma K (He.ga K "Address6") "__eq__")
  m_Address4____eq__ : Meth K (He.ga K "Address4") "__eq__" (He.ma K (He.ga K "Address4") "__eq__")
  m_Address6____eq__ : Meth K (He.ga K "Address6") "__eq__" (He.ma K (He.ga K "Address6") "__eq__")
  kp_quad_parts : keepIn K (.ref (He.ga K "quad_parts")) = true
  g_quad_parts : mg "quad_parts" = some (.ref (He.ga K "quad_parts"))
  d_quad_parts : FnS K "quad_parts" "quad_parts" (top 20) (He.ga K "quad_parts")
  kp_quad_text : keepIn K (.ref (He.ga K "quad_text")) = true
  g_quad_text : mg "quad_text" = some (.ref (He.ga K "quad_text"))
  d_quad_text : FnS K "quad_text" "quad_text" (top 21) (He.ga K "quad_text")
  dm_Address4____str__ : FnS K "__str__" "Address4.__str__" (inClass (top 44) 12) (He.ma K (He.ga K "Address4") "__str__")
  kp_group_numbers : keepIn K (.ref (He.ga K "group_numbers")) = true
  g_group_numbers : mg "group_numbers" = some (.ref (He.ga K "group_numbers"))
  d_group_numbers : FnS K "group_numbers" "group_numbers" (top 34) (He.ga K "group_numbers")
  kp_longest_run : keepIn K (.ref (He.ga K "longest_run")) = true
  g_longest_run : mg "longest_run" = some (.ref (He.ga K "longest_run"))
  d_longest_run : FnS K "longest_run" "longest_run" (top 35) (He.ga K "longest_run")
  f_enumerate : mg "enumerate" = none
  kp_groups_text : keepIn K (.ref (He.ga K "groups_text")) = true
  g_groups_text : mg "groups_text" = some (.ref (He.ga K "groups_text"))
  d_groups_text : FnS K "groups_text" "groups_text" (top 36) (He.ga K "groups_text")
  m_Address4____str__ : Meth K (He.ga K "Address4") "__str__" (He.ma K (He.ga K "Address4") "__str__")
  dm_Address6____str__ : FnS K "__str__" "Address6.__str__" (inClass (top 45) 13) (He.ma K (He.ga K "Address6") "__str__")
  m_Address6____str__ : Meth K (He.ga K "Address6") "__str__" (He.ma K (He.ga K "Address6") "__str__")
  d_law : FnS K "law" "law" (top 52) (He.ga K "law")
  f_max : mg "max" = none
  g_NetError : mg "NetError" = some (.ref (He.ga K "NetError"))
  f_ValueError : mg "ValueError" = none
  f_repr : mg "repr" = none
  g_law : mg "law" = some (.ref (He.ga K "law"))
  kits_0 : Dn.KitOk K csA
  xi_BadNumber__value : Dn.XiC K "BadNumber" "value"
  xi_BadText__why : Dn.XiC K "BadText" "why"
  xi_BadBytes__length : Dn.XiC K "BadBytes" "length"
  xc_BadKind : Dn.XcC K "BadKind"
  xi_BadPrefix__length : Dn.XiC K "BadPrefix" "length"
  xi_HostBits__told : Dn.XiC K "HostBits" "told"
  xk_0 : Dn.XkOk K xsA
  no_Address4 : Dn.NoC K "Address4"
  no_Address6 : Dn.NoC K "Address6"
  fo_Address4 : Dn.FoC K "Address4"
  xc_Mixed : Dn.XcC K "Mixed"
  xc_NotWithin : Dn.XcC K "NotWithin"
  xc_BadRange : Dn.XcC K "BadRange"
  xc_BadWord : Dn.XcC K "BadWord"
  xc_NotThere : Dn.XcC K "NotThere"
  xc_NoMatch : Dn.XcC K "NoMatch"
  nfs_0 : Dn.NfOk K csA
  xf_value : Dn.XfOk K "value" [("BadNumber" : Str)]
  xf_why : Dn.XfOk K "why" [("BadText" : Str)]
  xf_length : Dn.XfOk K "length" [("BadBytes" : Str), ("BadPrefix" : Str)]
  xf_told : Dn.XfOk K "told" [("HostBits" : Str)]
section
variable {P : Program} {w : World} {K : Frag} {mg : Str → Option Value} {base : Heap}
abbrev s__law_source : Stmt := (top 48)
abbrev N__law_source : List Str := [("_law_script" : Str), ("_law_k" : Str), ("_law_cell" : Str)]
theorem sc__law_source : FnScope N__law_source [("_law_script" : Str), ("_law_k" : Str)] (defScope s__law_source) := ⟨rfl, rfl, rfl, by decide +kernel, rfl, by decide +kernel, by decide +kernel⟩
theorem ok__law_source (T : Tx K mg) : FG P w K mg base 1 "_law_source" d__law_source := by
  refine ⟨?_, T.kp__law_source, T.g__law_source⟩
  refine fd_of (k := 0) T.d__law_source sc__law_source (fun _ _ _ _ _ _ us hl => match us, hl with | [_, _], _ => rfl) (by decide) (fun cdv A outer s H E w0 hr => ?_)
  have nd := sc__law_source.nd
  have hu := hr.units
  have tk := takes_of (X := cxOf (L2.CX P w) P w K mg base N__law_source "_law_source" (defScope s__law_source) (He.ga K "_law_source") cdv A outer s H E) (E := E) rfl rfl rfl rfl
  exact (dss_cons (ds_set (i := 2) nd rfl (Or.inl rfl) (de_bin j_add (de_ix (j_ix (fun _ _ => rfl)) (de_bin j_add (de_var 0) (de_lst (da_cons de_int da_nil))) de_int) (de_bin j_mul de_int (de_var 1))))
      (dss_cons (ds_if (dt_cmp (j_lt hu) (de_var 1) (de_callB jc_len T.f_len bb_len (da_cons (de_var 0) da_nil))) (dss_one (ds_set (i := 2) nd rfl (Or.inl rfl) (de_ix (j_ix (fun _ _ => rfl)) (de_var 0) (de_var 1))))
      dss_nil)
      (dss_one (ds_ret (de_lstS (da_cons (de_var 2) (da_cons (de_var 2) (da_cons de_int da_nil))))))))
abbrev s__law_mix : Stmt := (top 47)
abbrev N__law_mix : List Str := [("_law_cell" : Str), ("_law_step" : Str), ("_law_blend" : Str)]
theorem sc__law_mix : FnScope N__law_mix [("_law_cell" : Str), ("_law_step" : Str)] (defScope s__law_mix) := ⟨rfl, rfl, rfl, by decide +kernel, rfl, by decide +kernel, by decide +kernel⟩
theorem ok__law_mix (T : Tx K mg) : FG P w K mg base 1 "_law_mix" d__law_mix := by
  refine ⟨?_, T.kp__law_mix, T.g__law_mix⟩
  refine fd_of (k := 0) T.d__law_mix sc__law_mix (fun _ _ _ _ _ _ us hl => match us, hl with | [_, _], _ => rfl) (by decide) (fun cdv A outer s H E w0 hr => ?_)
  have nd := sc__law_mix.nd
  have hu := hr.units
  have tk := takes_of (X := cxOf (L2.CX P w) P w K mg base N__law_mix "_law_mix" (defScope s__law_mix) (He.ga K "_law_mix") cdv A outer s H E) (E := E) rfl rfl rfl rfl
  exact (dss_cons (ds_set (i := 2) nd rfl (Or.inl rfl) (de_bin j_add (de_bin j_add (de_bin j_add (de_bin j_mod (de_callT jc_int T.f_int bb_int (da_cons (de_var 0) da_nil)) de_int) (de_bin j_mul de_int (de_var 1))) (de_bin j_mod (de_callT jc_int T.f_int bb_int (da_cons (de_bin j_fdiv (de_var 0) de_int) da_nil)) de_int)) de_int))
      (dss_cons (ds_set (i := 2) nd rfl (Or.inl rfl) (de_bin j_mod (de_callT jc_int T.f_int bb_int (da_cons (de_bin j_mul (de_var 2) de_int) da_nil)) de_int))
      (dss_cons (ds_set (i := 2) nd rfl (Or.inl rfl) (de_bin j_mod (de_callT jc_int T.f_int bb_int (da_cons (de_bin j_mul (de_var 2) (de_bin j_add (de_bin j_add (de_bin j_fdiv (de_var 2) de_int) de_int) (de_var 1))) da_nil)) de_int))
      (dss_one (ds_ret (de_bin j_mod (de_callT jc_int T.f_int bb_int (da_cons (de_bin j_mul (de_var 2) (de_bin j_add (de_bin j_fdiv (de_var 2) de_int) de_int)) da_nil)) de_int))))))
abbrev s__law_draw : Stmt := (top 49)
abbrev N__law_draw : List Str := [("_law_source_here" : Str), ("_law_many" : Str), ("_law_found" : Str)]
theorem sc__law_draw : FnScope N__law_draw [("_law_source_here" : Str), ("_law_many" : Str)] (defScope s__law_draw) := ⟨rfl, rfl, rfl, by decide +kernel, rfl, by decide +kernel, by decide +kernel⟩
theorem ok__law_draw (T : Tx K mg) : FG P w K mg base 2 "_law_draw" d__law_draw := by
  refine ⟨?_, T.kp__law_draw, T.g__law_draw⟩
  have h_ok__law_mix := ok__law_mix (P := P) (w := w) (base := base) T
  refine fd_of (k := 1) T.d__law_draw sc__law_draw (fun _ _ _ _ _ _ us hl => match us, hl with | [_, _], _ => rfl) (by decide) (fun cdv A outer s H E w0 hr => ?_)
  have nd := sc__law_draw.nd
  have hu := hr.units
  have tk := takes_of (X := cxOf (L2.CX P w) P w K mg base N__law_draw "_law_draw" (defScope s__law_draw) (He.ga K "_law_draw") cdv A outer s H E) (E := E) rfl rfl rfl rfl
  exact (dss_cons (ds_if (dt_cmp (j_ge hu) (de_ix (j_ix (fun _ _ => rfl)) (de_var 0) de_int) (de_bin j_pow de_int de_int)) (dss_cons (ds_set (i := 2) nd rfl (Or.inl rfl) (de_bin j_mod (de_callT jc_int T.f_int bb_int (da_cons (de_ix (j_ix (fun _ _ => rfl)) (de_var 0) de_int) da_nil)) (de_var 1)))
      (dss_cons (ds_setSrc (de_bin j_fdiv (de_ix (j_ix (fun _ _ => rfl)) (de_var 0) de_int) (de_var 1)) (de_var 0) de_int)
      (dss_one (ds_ret (de_var 2)))))
      dss_nil)
      (dss_cons (ds_setSrc (de_bin j_add (de_ix (j_ix (fun _ _ => rfl)) (de_var 0) de_int) de_int) (de_var 0) de_int)
      (dss_one (ds_ret (de_bin j_mod (de_callT jc_int T.f_int bb_int (da_cons (de_call h_ok__law_mix (hr.mono (by decide)) tk (da_cons (de_ix (j_ix (fun _ _ => rfl)) (de_var 0) de_int) (da_cons (de_ix (j_ix (fun _ _ => rfl)) (de_var 0) de_int) da_nil))) da_nil)) (de_var 1))))))
abbrev s__law_number : Stmt := (top 50)
abbrev N__law_number : List Str := [("_law_source_here" : Str), ("_law_bits" : Str), ("_law_top" : Str), ("_law_way" : Str), ("_law_step" : Str), ("_law_found" : Str), ("_law_k" : Str), ("_law_some" : Str)]
theorem sc__law_number : FnScope N__law_number [("_law_source_here" : Str), ("_law_bits" : Str)] (defScope s__law_number) := ⟨rfl, rfl, rfl, by decide +kernel, rfl, by decide +kernel, by decide +kernel⟩
theorem ok__law_number (T : Tx K mg) : FG P w K mg base 3 "_law_number" d__law_number := by
  refine ⟨?_, T.kp__law_number, T.g__law_number⟩
  have h_ok__law_draw := ok__law_draw (P := P) (w := w) (base := base) T
  refine fd_of (k := 2) T.d__law_number sc__law_number (fun _ _ _ _ _ _ us hl => match us, hl with | [_, _], _ => rfl) (by decide) (fun cdv A outer s H E w0 hr => ?_)
  have nd := sc__law_number.nd
  have hu := hr.units
  have tk := takes_of (X := cxOf (L2.CX P w) P w K mg base N__law_number "_law_number" (defScope s__law_number) (He.ga K "_law_number") cdv A outer s H E) (E := E) rfl rfl rfl rfl
  exact (dss_cons (ds_set (i := 2) nd rfl (Or.inl rfl) (de_bin j_sub (de_bin j_shl de_int (de_var 1)) de_int))
      (dss_cons (ds_set (i := 3) nd rfl (Or.inl rfl) (de_call h_ok__law_draw (hr.mono (by decide)) tk (da_cons (de_var 0) (da_cons de_int da_nil))))
      (dss_cons (ds_if (dt_cmp (j_eq hu) (de_var 3) de_int) (dss_one (ds_ret (de_ix (j_ix (fun _ _ => rfl)) (de_lst (da_cons de_int (da_cons de_int (da_cons (de_var 2) (da_cons (de_bin j_sub (de_var 2) de_int) da_nil))))) (de_call h_ok__law_draw (hr.mono (by decide)) tk (da_cons (de_var 0) (da_cons de_int da_nil))))))
      dss_nil)
      (dss_cons (ds_if (dt_cmp (j_eq hu) (de_var 3) de_int) (dss_one (ds_ret (de_callB (jc_min rfl) T.f_min bb_min (da_cons (de_var 2) (da_cons (de_bin j_sub (de_bin j_add (de_bin j_shl de_int (de_call h_ok__law_draw (hr.mono (by decide)) tk (da_cons (de_var 0) (da_cons (de_bin j_add (de_var 1) de_int) da_nil)))) (de_call h_ok__law_draw (hr.mono (by decide)) tk (da_cons (de_var 0) (da_cons de_int da_nil)))) de_int) da_nil)))))
      dss_nil)
      (dss_cons (ds_set (i := 4) nd rfl (Or.inl rfl) (de_ix (j_ix (fun _ _ => rfl)) (de_lst (da_cons de_int (da_cons de_int da_nil))) (de_callT jc_int T.f_int bb_int (da_cons (de_cmp (j_eq hu) (de_var 1) de_int) da_nil))))
      (dss_cons (ds_set (i := 5) nd rfl (Or.inl rfl) de_int)
      (dss_cons (ds_for (passes_of rfl) rfl (di_range1 T.f_range (da_cons (de_bin j_fdiv (de_var 1) (de_var 4)) da_nil)) (dg_name (i := 6) nd rfl (Or.inl rfl))
      (dss_wip (dss_cons (ds_set (i := 7) nd rfl (Or.inl rfl) (de_lst (da_cons de_int (da_cons de_int (da_cons de_int (da_cons de_int (da_cons (de_bin j_sub (de_bin j_shl de_int (de_var 4)) de_int) (da_cons (de_call h_ok__law_draw (hr.mono (by decide)) tk (da_cons (de_var 0) (da_cons (de_bin j_shl de_int (de_var 4)) da_nil))) da_nil))))))))
      (dss_one (ds_set (i := 5) nd rfl (Or.inl rfl) (de_bin j_add (de_bin j_mul (de_var 5) (de_bin j_shl de_int (de_var 4))) (de_ix (j_ix (fun _ _ => rfl)) (de_var 7) (de_call h_ok__law_draw (hr.mono (by decide)) tk (da_cons (de_var 0) (da_cons de_int da_nil))))))))))
      (dss_one (ds_ret (de_var 5))))))))))
theorem ok_ta_number_0 (T : Tx K mg) : TblOk P w K mg base 0 "number" ta_number_0 := (tbl_cons (.fld T.c_Address4 T.na_Address4__number) (tbl_cons (.fld T.c_Address6 T.na_Address6__number) tbl_nil))
abbrev s_is_integer : Stmt := (top 40)
abbrev N_is_integer : List Str := [("thing" : Str)]
theorem sc_is_integer : FnScope N_is_integer [("thing" : Str)] (defScope s_is_integer) := ⟨rfl, rfl, rfl, by decide +kernel, rfl, by decide +kernel, by decide +kernel⟩
theorem ok_is_integer (T : Tx K mg) : FG P w K mg base 1 "is_integer" d_is_integer := by
  refine ⟨?_, T.kp_is_integer, T.g_is_integer⟩
  refine fd_of (k := 0) T.d_is_integer sc_is_integer (fun _ _ _ _ _ _ us hl => match us, hl with | [_], _ => rfl) (by decide) (fun cdv A outer s H E w0 hr => ?_)
  have nd := sc_is_integer.nd
  have hu := hr.units
  have tk := takes_of (X := cxOf (L2.CX P w) P w K mg base N_is_integer "is_integer" (defScope s_is_integer) (He.ga K "is_integer") cdv A outer s H E) (E := E) rfl rfl rfl rfl
  exact (dss_one (ds_ret (de_and jt_tru (de_callB (jc_isi T.kits_0) T.f_isinstance bb_isinstance (da_cons (de_var 0) (da_cons (de_ty T.f_int bb_int) da_nil))) (de_one (de_not jt_tru (de_callB (jc_isi T.kits_0) T.f_isinstance bb_isinstance (da_cons (de_var 0) (da_cons (de_ty T.f_bool bb_bool) da_nil))))))))
abbrev s_is_from : Stmt := (top 41)
abbrev N_is_from : List Str := [("thing" : Str), ("low" : Str), ("high" : Str)]
theorem sc_is_from : FnScope N_is_from [("thing" : Str), ("low" : Str), ("high" : Str)] (defScope s_is_from) := ⟨rfl, rfl, rfl, by decide +kernel, rfl, by decide +kernel, by decide +kernel⟩
theorem ok_is_from (T : Tx K mg) : FG P w K mg base 2 "is_from" d_is_from := by
  refine ⟨?_, T.kp_is_from, T.g_is_from⟩
  have h_ok_is_integer := ok_is_integer (P := P) (w := w) (base := base) T
  refine fd_of (k := 1) T.d_is_from sc_is_from (fun _ _ _ _ _ _ us hl => match us, hl with | [_, _, _], _ => rfl) (by decide) (fun cdv A outer s H E w0 hr => ?_)
  have nd := sc_is_from.nd
  have hu := hr.units
  have tk := takes_of (X := cxOf (L2.CX P w) P w K mg base N_is_from "is_from" (defScope s_is_from) (He.ga K "is_from") cdv A outer s H E) (E := E) rfl rfl rfl rfl
  exact (dss_one (ds_ret (de_and jt_tru (de_call h_ok_is_integer (hr.mono (by decide)) tk (da_cons (de_var 0) da_nil)) (de_one (de_chain (j_le hu) (j_le hu) (de_var 1) (de_var 0) (de_var 2))))))
abbrev s_BadNumber___init__ : Stmt := (inClass (top 4) 0)
abbrev N_BadNumber___init__ : List Str := ["self", "value"]
theorem sc_BadNumber___init__ : FnScope N_BadNumber___init__ ["self", "value"] (defScope s_BadNumber___init__) := ⟨rfl, rfl, rfl, by decide +kernel, rfl, by decide +kernel, by decide +kernel⟩
theorem fx_BadNumber (T : Tx K mg) : FX P w K mg base "BadNumber" "value" := fx_of T.xi_BadNumber__value T.g_BadNumber T.dm_BadNumber____init__ sc_BadNumber___init__ rfl (fun _ _ _ _ _ _ us hl => match us, hl with | [_, _], _ => rfl) (fun E e => by rw [e]; exact ⟨Or.inl rfl, Or.inl rfl⟩) ⟨by decide, by decide, by decide, by decide⟩ (fun E e => rfl)
abbrev s_part_fault : Stmt := (top 17)
abbrev N_part_fault : List Str := [("part" : Str), ("sign" : Str)]
theorem sc_part_fault : FnScope N_part_fault [("part" : Str)] (defScope s_part_fault) := ⟨rfl, rfl, rfl, by decide +kernel, rfl, by decide +kernel, by decide +kernel⟩
theorem ok_part_fault (T : Tx K mg) : FG P w K mg base 1 "part_fault" d_part_fault := by
  refine ⟨?_, T.kp_part_fault, T.g_part_fault⟩
  refine fd_of (k := 0) T.d_part_fault sc_part_fault (fun _ _ _ _ _ _ us hl => match us, hl with | [_], _ => rfl) (by decide) (fun cdv A outer s H E w0 hr => ?_)
  have nd := sc_part_fault.nd
  have hu := hr.units
  have tk := takes_of (X := cxOf (L2.CX P w) P w K mg base N_part_fault "part_fault" (defScope s_part_fault) (He.ga K "part_fault") cdv A outer s H E) (E := E) rfl rfl rfl rfl
  exact (dss_cons (ds_if (dt_cmp (j_eq hu) (de_var 0) de_str) (dss_one (ds_ret de_str))
      dss_nil)
      (dss_cons (ds_if (dt_not (dt_val jt_tru (de_callB (jc_all rfl) T.f_all bb_all (da_cons (de_lc (own := [(("sign" : Str), 1)]) rfl nd (di_any (de_var 0)) (blkOk_by (own := [(("sign" : Str), 1)]) (N := N_part_fault) (sc := defScope s_part_fault) (by decide +kernel)) (by decide) (fun _ _ _ _ _ => (dg_name (i := 1) nd rfl (Or.inl rfl))) (fun _ _ _ _ _ => dts_nil) (fun _ _ _ _ _ => (de_cmp j_in (de_var 1) (de_gs T.s_DIGITS)))) da_nil)))) (dss_one (ds_ret de_str))
      dss_nil)
      (dss_cons (ds_if (dt_cmp (j_gt hu) (de_callB jc_len T.f_len bb_len (da_cons (de_var 0) da_nil)) de_int) (dss_one (ds_ret de_str))
      dss_nil)
      (dss_cons (ds_if (DW.dt (dw_and (dt_cmp (j_eq hu) (de_ix (j_ix (fun _ _ => rfl)) (de_var 0) de_int) de_str) (dw_and1 (dt_cmp (j_ne hu) (de_var 0) de_str)))) (dss_one (ds_ret de_str))
      dss_nil)
      (dss_one (ds_ret (de_if (dt_cmp (j_gt hu) (de_callT jc_int T.f_int bb_int (da_cons (de_var 0) da_nil)) de_int) de_str de_non)))))))
abbrev s_quad_fault : Stmt := (top 18)
abbrev N_quad_fault : List Str := [("text" : Str), ("parts" : Str), ("part" : Str), ("why" : Str)]
theorem sc_quad_fault : FnScope N_quad_fault [("text" : Str)] (defScope s_quad_fault) := ⟨rfl, rfl, rfl, by decide +kernel, rfl, by decide +kernel, by decide +kernel⟩
theorem ok_quad_fault (T : Tx K mg) : FG P w K mg base 2 "quad_fault" d_quad_fault := by
  refine ⟨?_, T.kp_quad_fault, T.g_quad_fault⟩
  have h_ok_part_fault := ok_part_fault (P := P) (w := w) (base := base) T
  refine fd_of (k := 1) T.d_quad_fault sc_quad_fault (fun _ _ _ _ _ _ us hl => match us, hl with | [_], _ => rfl) (by decide) (fun cdv A outer s H E w0 hr => ?_)
  have nd := sc_quad_fault.nd
  have hu := hr.units
  have tk := takes_of (X := cxOf (L2.CX P w) P w K mg base N_quad_fault "quad_fault" (defScope s_quad_fault) (He.ga K "quad_fault") cdv A outer s H E) (E := E) rfl rfl rfl rfl
  exact (dss_cons (ds_set (i := 1) nd rfl (Or.inl rfl) (de_bm PySem.F.plainAttrs_str PySem.F.slot_str_split PySem.F.type_str_split jm_split (de_var 0) (da_cons de_str da_nil)))
      (dss_cons (ds_if (dt_cmp (j_ne hu) (de_callB jc_len T.f_len bb_len (da_cons (de_var 1) da_nil)) de_int) (dss_one (ds_ret de_str))
      dss_nil)
      (dss_cons (ds_for (passes_of rfl) rfl (di_any (de_var 1)) (dg_name (i := 2) nd rfl (Or.inl rfl))
      (dss_wip (dss_one (ds_ifW (i := 3) nd rfl (Or.inl rfl) j_isnot (de_call h_ok_part_fault (hr.mono (by decide)) tk (da_cons (de_var 2) da_nil)) de_non (dss_one (ds_ret (de_var 3))) dss_nil))))
      (dss_one (ds_ret de_non)))))
abbrev s_BadText___init__ : Stmt := (inClass (top 5) 0)
abbrev N_BadText___init__ : List Str := ["self", "why"]
theorem sc_BadText___init__ : FnScope N_BadText___init__ ["self", "why"] (defScope s_BadText___init__) := ⟨rfl, rfl, rfl, by decide +kernel, rfl, by decide +kernel, by decide +kernel⟩
theorem fx_BadText (T : Tx K mg) : FX P w K mg base "BadText" "why" := fx_of T.xi_BadText__why T.g_BadText T.dm_BadText____init__ sc_BadText___init__ rfl (fun _ _ _ _ _ _ us hl => match us, hl with | [_, _], _ => rfl) (fun E e => by rw [e]; exact ⟨Or.inl rfl, Or.inl rfl⟩) ⟨by decide, by decide, by decide, by decide⟩ (fun E e => rfl)
abbrev s_read_quad : Stmt := (top 19)
abbrev N_read_quad : List Str := [("text" : Str), ("why" : Str), ("found" : Str), ("part" : Str)]
theorem sc_read_quad : FnScope N_read_quad [("text" : Str)] (defScope s_read_quad) := ⟨rfl, rfl, rfl, by decide +kernel, rfl, by decide +kernel, by decide +kernel⟩
theorem ok_read_quad (T : Tx K mg) : FG P w K mg base 3 "read_quad" d_read_quad := by
  refine ⟨?_, T.kp_read_quad, T.g_read_quad⟩
  have h_ok_quad_fault := ok_quad_fault (P := P) (w := w) (base := base) T
  have h_fx_BadText := fx_BadText (P := P) (w := w) (base := base) T
  refine fd_of (k := 2) T.d_read_quad sc_read_quad (fun _ _ _ _ _ _ us hl => match us, hl with | [_], _ => rfl) (by decide) (fun cdv A outer s H E w0 hr => ?_)
  have nd := sc_read_quad.nd
  have hu := hr.units
  have tk := takes_of (X := cxOf (L2.CX P w) P w K mg base N_read_quad "read_quad" (defScope s_read_quad) (He.ga K "read_quad") cdv A outer s H E) (E := E) rfl rfl rfl rfl
  exact (dss_cons (ds_set (i := 1) nd rfl (Or.inl rfl) (de_call h_ok_quad_fault (hr.mono (by decide)) tk (da_cons (de_var 0) da_nil)))
      (dss_cons (ds_if (dt_cmp j_isnot (de_var 1) de_non) (dss_one (ds_raiseI h_fx_BadText (hr.mono (by decide)) tk (de_var 1)))
      dss_nil)
      (dss_cons (ds_set (i := 2) nd rfl (Or.inl rfl) de_int)
      (dss_cons (ds_for (passes_of rfl) rfl (di_any (de_bm PySem.F.plainAttrs_str PySem.F.slot_str_split PySem.F.type_str_split jm_split (de_var 0) (da_cons de_str da_nil))) (dg_name (i := 3) nd rfl (Or.inl rfl))
      (dss_wip (dss_one (ds_set (i := 2) nd rfl (Or.inl rfl) (de_bin j_add (de_bin j_mul (de_var 2) de_int) (de_callT jc_int T.f_int bb_int (da_cons (de_var 3) da_nil)))))))
      (dss_one (ds_ret (de_var 2)))))))
abbrev s_quad_place : Stmt := (top 24)
abbrev N_quad_place : List Str := [("text" : Str)]
theorem sc_quad_place : FnScope N_quad_place [("text" : Str)] (defScope s_quad_place) := ⟨rfl, rfl, rfl, by decide +kernel, rfl, by decide +kernel, by decide +kernel⟩
theorem ok_quad_place (T : Tx K mg) : FG P w K mg base 1 "quad_place" d_quad_place := by
  refine ⟨?_, T.kp_quad_place, T.g_quad_place⟩
  refine fd_of (k := 0) T.d_quad_place sc_quad_place (fun _ _ _ _ _ _ us hl => match us, hl with | [_], _ => rfl) (by decide) (fun cdv A outer s H E w0 hr => ?_)
  have nd := sc_quad_place.nd
  have hu := hr.units
  have tk := takes_of (X := cxOf (L2.CX P w) P w K mg base N_quad_place "quad_place" (defScope s_quad_place) (He.ga K "quad_place") cdv A outer s H E) (E := E) rfl rfl rfl rfl
  exact (dss_one (ds_ret (de_bin j_add (de_bm PySem.F.plainAttrs_str PySem.F.slot_str_rfind PySem.F.type_str_rfind jm_rfind (de_var 0) (da_cons de_str da_nil)) de_int)))
abbrev s_has_wrong_quad : Stmt := (top 25)
abbrev N_has_wrong_quad : List Str := [("text" : Str), ("place" : Str)]
theorem sc_has_wrong_quad : FnScope N_has_wrong_quad [("text" : Str)] (defScope s_has_wrong_quad) := ⟨rfl, rfl, rfl, by decide +kernel, rfl, by decide +kernel, by decide +kernel⟩
theorem ok_has_wrong_quad (T : Tx K mg) : FG P w K mg base 3 "has_wrong_quad" d_has_wrong_quad := by
  refine ⟨?_, T.kp_has_wrong_quad, T.g_has_wrong_quad⟩
  have h_ok_quad_place := ok_quad_place (P := P) (w := w) (base := base) T
  have h_ok_quad_fault := ok_quad_fault (P := P) (w := w) (base := base) T
  refine fd_of (k := 2) T.d_has_wrong_quad sc_has_wrong_quad (fun _ _ _ _ _ _ us hl => match us, hl with | [_], _ => rfl) (by decide) (fun cdv A outer s H E w0 hr => ?_)
  have nd := sc_has_wrong_quad.nd
  have hu := hr.units
  have tk := takes_of (X := cxOf (L2.CX P w) P w K mg base N_has_wrong_quad "has_wrong_quad" (defScope s_has_wrong_quad) (He.ga K "has_wrong_quad") cdv A outer s H E) (E := E) rfl rfl rfl rfl
  exact (dss_cons (ds_set (i := 1) nd rfl (Or.inl rfl) (de_call h_ok_quad_place (hr.mono (by decide)) tk (da_cons (de_var 0) da_nil)))
      (dss_one (ds_ret (de_and jt_tru (de_cmp j_in de_str (de_var 0)) (de_one (de_or jt_tru (de_cmp j_in de_str (de_sl (de_var 0) do_none (do_some (de_var 1)))) (de_one (de_cmp j_isnot (de_call h_ok_quad_fault (hr.mono (by decide)) tk (da_cons (de_sl (de_var 0) (do_some (de_var 1)) do_none) da_nil)) de_non))))))))
abbrev s_has_wrong_gaps : Stmt := (top 26)
abbrev N_has_wrong_gaps : List Str := [("text" : Str)]
theorem sc_has_wrong_gaps : FnScope N_has_wrong_gaps [("text" : Str)] (defScope s_has_wrong_gaps) := ⟨rfl, rfl, rfl, by decide +kernel, rfl, by decide +kernel, by decide +kernel⟩
theorem ok_has_wrong_gaps (T : Tx K mg) : FG P w K mg base 1 "has_wrong_gaps" d_has_wrong_gaps := by
  refine ⟨?_, T.kp_has_wrong_gaps, T.g_has_wrong_gaps⟩
  refine fd_of (k := 0) T.d_has_wrong_gaps sc_has_wrong_gaps (fun _ _ _ _ _ _ us hl => match us, hl with | [_], _ => rfl) (by decide) (fun cdv A outer s H E w0 hr => ?_)
  have nd := sc_has_wrong_gaps.nd
  have hu := hr.units
  have tk := takes_of (X := cxOf (L2.CX P w) P w K mg base N_has_wrong_gaps "has_wrong_gaps" (defScope s_has_wrong_gaps) (He.ga K "has_wrong_gaps") cdv A outer s H E) (E := E) rfl rfl rfl rfl
  exact (dss_one (ds_ret (de_or jt_tru (de_cmp j_in de_str (de_var 0)) (de_one (de_cmp (j_gt hu) (de_bm PySem.F.plainAttrs_str PySem.F.slot_str_count PySem.F.type_str_count jm_count (de_var 0) (da_cons de_str da_nil)) de_int)))))
abbrev s_has_wrong_ends : Stmt := (top 27)
abbrev N_has_wrong_ends : List Str := [("text" : Str)]
theorem sc_has_wrong_ends : FnScope N_has_wrong_ends [("text" : Str)] (defScope s_has_wrong_ends) := ⟨rfl, rfl, rfl, by decide +kernel, rfl, by decide +kernel, by decide +kernel⟩
theorem ok_has_wrong_ends (T : Tx K mg) : FG P w K mg base 1 "has_wrong_ends" d_has_wrong_ends := by
  refine ⟨?_, T.kp_has_wrong_ends, T.g_has_wrong_ends⟩
  refine fd_of (k := 0) T.d_has_wrong_ends sc_has_wrong_ends (fun _ _ _ _ _ _ us hl => match us, hl with | [_], _ => rfl) (by decide) (fun cdv A outer s H E w0 hr => ?_)
  have nd := sc_has_wrong_ends.nd
  have hu := hr.units
  have tk := takes_of (X := cxOf (L2.CX P w) P w K mg base N_has_wrong_ends "has_wrong_ends" (defScope s_has_wrong_ends) (He.ga K "has_wrong_ends") cdv A outer s H E) (E := E) rfl rfl rfl rfl
  exact (dss_cons (ds_if (DW.dt (dw_and (dt_val jt_tru (de_bm PySem.F.plainAttrs_str PySem.F.slot_str_startswith PySem.F.type_str_startswith jm_startswith (de_var 0) (da_cons de_str da_nil))) (dw_and1 (dt_not (dt_val jt_tru (de_bm PySem.F.plainAttrs_str PySem.F.slot_str_startswith PySem.F.type_str_startswith jm_startswith (de_var 0) (da_cons de_str da_nil))))))) (dss_one (ds_ret de_bl))
      dss_nil)
      (dss_one (ds_ret (de_and jt_tru (de_bm PySem.F.plainAttrs_str PySem.F.slot_str_endswith PySem.F.type_str_endswith jm_endswith (de_var 0) (da_cons de_str da_nil)) (de_one (de_not jt_tru (de_bm PySem.F.plainAttrs_str PySem.F.slot_str_endswith PySem.F.type_str_endswith jm_endswith (de_var 0) (da_cons de_str da_nil))))))))
abbrev s_hex_groups : Stmt := (top 28)
abbrev N_hex_groups : List Str := [("text" : Str)]
theorem sc_hex_groups : FnScope N_hex_groups [("text" : Str)] (defScope s_hex_groups) := ⟨rfl, rfl, rfl, by decide +kernel, rfl, by decide +kernel, by decide +kernel⟩
theorem ok_hex_groups (T : Tx K mg) : FG P w K mg base 1 "hex_groups" d_hex_groups := by
  refine ⟨?_, T.kp_hex_groups, T.g_hex_groups⟩
  refine fd_of (k := 0) T.d_hex_groups sc_hex_groups (fun _ _ _ _ _ _ us hl => match us, hl with | [_], _ => rfl) (by decide) (fun cdv A outer s H E w0 hr => ?_)
  have nd := sc_hex_groups.nd
  have hu := hr.units
  have tk := takes_of (X := cxOf (L2.CX P w) P w K mg base N_hex_groups "hex_groups" (defScope s_hex_groups) (He.ga K "hex_groups") cdv A outer s H E) (E := E) rfl rfl rfl rfl
  exact (dss_one (ds_ret (de_if (dt_cmp (j_eq hu) (de_var 0) de_str) (de_lst da_nil) (de_bm PySem.F.plainAttrs_str PySem.F.slot_str_split PySem.F.type_str_split jm_split (de_var 0) (da_cons de_str da_nil)))))
abbrev s_parts_of : Stmt := (top 29)
abbrev N_parts_of : List Str := [("text" : Str), ("place" : Str), ("quad" : Str), ("plain" : Str), ("ahead" : Str), ("gap" : Str), ("behind" : Str)]
theorem sc_parts_of : FnScope N_parts_of [("text" : Str)] (defScope s_parts_of) := ⟨rfl, rfl, rfl, by decide +kernel, rfl, by decide +kernel, by decide +kernel⟩
theorem ok_parts_of (T : Tx K mg) : FG P w K mg base 2 "parts_of" d_parts_of := by
  refine ⟨?_, T.kp_parts_of, T.g_parts_of⟩
  have h_ok_quad_place := ok_quad_place (P := P) (w := w) (base := base) T
  have h_ok_hex_groups := ok_hex_groups (P := P) (w := w) (base := base) T
  refine fd_of (k := 1) T.d_parts_of sc_parts_of (fun _ _ _ _ _ _ us hl => match us, hl with | [_], _ => rfl) (by decide) (fun cdv A outer s H E w0 hr => ?_)
  have nd := sc_parts_of.nd
  have hu := hr.units
  have tk := takes_of (X := cxOf (L2.CX P w) P w K mg base N_parts_of "parts_of" (defScope s_parts_of) (He.ga K "parts_of") cdv A outer s H E) (E := E) rfl rfl rfl rfl
  exact (dss_cons (ds_set (i := 1) nd rfl (Or.inl rfl) (de_call h_ok_quad_place (hr.mono (by decide)) tk (da_cons (de_var 0) da_nil)))
      (dss_cons (ds_set (i := 2) nd rfl (Or.inl rfl) (de_if (dt_cmp j_in de_str (de_var 0)) (de_sl (de_var 0) (do_some (de_var 1)) do_none) de_str))
      (dss_cons (ds_set (i := 3) nd rfl (Or.inl rfl) (de_if (dt_cmp (j_ne hu) (de_var 2) de_str) (de_sl (de_var 0) do_none (do_some (de_var 1))) (de_var 0)))
      (dss_cons (ds_if (dt_cmp j_in de_str (de_var 3)) (dss_cons (ds_asg (de_bm PySem.F.plainAttrs_str PySem.F.slot_str_partition PySem.F.type_str_partition jm_part (de_var 3) (da_cons de_str da_nil)) (dg_tup rfl (dgs_cons (dg_name (i := 4) nd rfl (Or.inl rfl)) (dgs_cons (dg_name (i := 5) nd rfl (Or.inl rfl)) (dgs_cons (dg_name (i := 6) nd rfl (Or.inl rfl)) dgs_nil)))))
      (dss_one (ds_ret (de_tup (da_cons (de_call h_ok_hex_groups (hr.mono (by decide)) tk (da_cons (de_var 4) da_nil)) (da_cons (de_call h_ok_hex_groups (hr.mono (by decide)) tk (da_cons (de_bm PySem.F.plainAttrs_str PySem.F.slot_str_rstrip PySem.F.type_str_rstrip jm_rstrip (de_var 6) (da_cons de_str da_nil)) da_nil)) (da_cons (de_var 2) da_nil)))))))
      dss_nil)
      (dss_one (ds_ret (de_tup (da_cons (de_call h_ok_hex_groups (hr.mono (by decide)) tk (da_cons (de_bm PySem.F.plainAttrs_str PySem.F.slot_str_rstrip PySem.F.type_str_rstrip jm_rstrip (de_var 3) (da_cons de_str da_nil)) da_nil)) (da_cons de_non (da_cons (de_var 2) da_nil))))))))))
abbrev s_has_wrong_count : Stmt := (top 30)
abbrev N_has_wrong_count : List Str := [("ahead" : Str), ("behind" : Str), ("quad" : Str), ("many" : Str)]
theorem sc_has_wrong_count : FnScope N_has_wrong_count [("ahead" : Str), ("behind" : Str), ("quad" : Str)] (defScope s_has_wrong_count) := ⟨rfl, rfl, rfl, by decide +kernel, rfl, by decide +kernel, by decide +kernel⟩
theorem ok_has_wrong_count (T : Tx K mg) : FG P w K mg base 1 "has_wrong_count" d_has_wrong_count := by
  refine ⟨?_, T.kp_has_wrong_count, T.g_has_wrong_count⟩
  refine fd_of (k := 0) T.d_has_wrong_count sc_has_wrong_count (fun _ _ _ _ _ _ us hl => match us, hl with | [_, _, _], _ => rfl) (by decide) (fun cdv A outer s H E w0 hr => ?_)
  have nd := sc_has_wrong_count.nd
  have hu := hr.units
  have tk := takes_of (X := cxOf (L2.CX P w) P w K mg base N_has_wrong_count "has_wrong_count" (defScope s_has_wrong_count) (He.ga K "has_wrong_count") cdv A outer s H E) (E := E) rfl rfl rfl rfl
  exact (dss_cons (ds_set (i := 3) nd rfl (Or.inl rfl) (de_bin j_add (de_bin j_add (de_callB jc_len T.f_len bb_len (da_cons (de_var 0) da_nil)) (de_callB jc_len T.f_len bb_len (da_cons (de_or jt_tru (de_var 1) (de_one (de_lst da_nil))) da_nil))) (de_bin j_mul de_int (de_callT jc_int T.f_int bb_int (da_cons (de_cmp (j_ne hu) (de_var 2) de_str) da_nil)))))
      (dss_one (ds_ret (de_if (dt_cmp j_is (de_var 1) de_non) (de_cmp (j_ne hu) (de_var 3) de_int) (de_cmp (j_gt hu) (de_var 3) de_int)))))
abbrev s_groups_fault : Stmt := (top 31)
abbrev N_groups_fault : List Str := [("text" : Str), ("ahead" : Str), ("behind" : Str), ("quad" : Str), ("sign" : Str), ("group" : Str)]
theorem sc_groups_fault : FnScope N_groups_fault [("text" : Str)] (defScope s_groups_fault) := ⟨rfl, rfl, rfl, by decide +kernel, rfl, by decide +kernel, by decide +kernel⟩
theorem ok_groups_fault (T : Tx K mg) : FG P w K mg base 4 "groups_fault" d_groups_fault := by
  refine ⟨?_, T.kp_groups_fault, T.g_groups_fault⟩
  have h_ok_has_wrong_quad := ok_has_wrong_quad (P := P) (w := w) (base := base) T
  have h_ok_has_wrong_gaps := ok_has_wrong_gaps (P := P) (w := w) (base := base) T
  have h_ok_has_wrong_ends := ok_has_wrong_ends (P := P) (w := w) (base := base) T
  have h_ok_parts_of := ok_parts_of (P := P) (w := w) (base := base) T
  have h_ok_has_wrong_count := ok_has_wrong_count (P := P) (w := w) (base := base) T
  refine fd_of (k := 3) T.d_groups_fault sc_groups_fault (fun _ _ _ _ _ _ us hl => match us, hl with | [_], _ => rfl) (by decide) (fun cdv A outer s H E w0 hr => ?_)
  have nd := sc_groups_fault.nd
  have hu := hr.units
  have tk := takes_of (X := cxOf (L2.CX P w) P w K mg base N_groups_fault "groups_fault" (defScope s_groups_fault) (He.ga K "groups_fault") cdv A outer s H E) (E := E) rfl rfl rfl rfl
  exact (dss_cons (ds_if (dt_not (dt_val jt_tru (de_callB (jc_all rfl) T.f_all bb_all (da_cons (de_lc (own := [(("sign" : Str), 4)]) rfl nd (di_any (de_var 0)) (blkOk_by (own := [(("sign" : Str), 4)]) (N := N_groups_fault) (sc := defScope s_groups_fault) (by decide +kernel)) (by decide) (fun _ _ _ _ _ => (dg_name (i := 4) nd rfl (Or.inl rfl))) (fun _ _ _ _ _ => dts_nil) (fun _ _ _ _ _ => (de_or jt_tru (de_cmp j_in (de_bm0 PySem.F.plainAttrs_str PySem.F.slot_str_lower PySem.F.type_str_lower jm_lower (de_var 4)) (de_gs T.s_HEX)) (de_one (de_cmp j_in (de_var 4) de_str))))) da_nil)))) (dss_one (ds_ret de_str))
      dss_nil)
      (dss_cons (ds_if (dt_val jt_tru (de_call h_ok_has_wrong_quad (hr.mono (by decide)) tk (da_cons (de_var 0) da_nil))) (dss_one (ds_ret de_str))
      dss_nil)
      (dss_cons (ds_if (dt_val jt_tru (de_call h_ok_has_wrong_gaps (hr.mono (by decide)) tk (da_cons (de_var 0) da_nil))) (dss_one (ds_ret de_str))
      dss_nil)
      (dss_cons (ds_if (dt_val jt_tru (de_call h_ok_has_wrong_ends (hr.mono (by decide)) tk (da_cons (de_var 0) da_nil))) (dss_one (ds_ret de_str))
      dss_nil)
      (dss_cons (ds_asg (de_call h_ok_parts_of (hr.mono (by decide)) tk (da_cons (de_var 0) da_nil)) (dg_tup rfl (dgs_cons (dg_name (i := 1) nd rfl (Or.inl rfl)) (dgs_cons (dg_name (i := 2) nd rfl (Or.inl rfl)) (dgs_cons (dg_name (i := 3) nd rfl (Or.inl rfl)) dgs_nil)))))
      (dss_cons (ds_if (dt_not (dt_val jt_tru (de_callB (jc_all rfl) T.f_all bb_all (da_cons (de_lc (own := [(("group" : Str), 5)]) rfl nd (di_any (de_bin j_add (de_var 1) (de_or jt_tru (de_var 2) (de_one (de_lst da_nil))))) (blkOk_by (own := [(("group" : Str), 5)]) (N := N_groups_fault) (sc := defScope s_groups_fault) (by decide +kernel)) (by decide) (fun _ _ _ _ _ => (dg_name (i := 5) nd rfl (Or.inl rfl))) (fun _ _ _ _ _ => dts_nil) (fun _ _ _ _ _ => (de_cmp (j_lt hu) (de_callB jc_len T.f_len bb_len (da_cons (de_var 5) da_nil)) de_int))) da_nil)))) (dss_one (ds_ret de_str))
      dss_nil)
      (dss_one (ds_ret (de_if (dt_val jt_tru (de_call h_ok_has_wrong_count (hr.mono (by decide)) tk (da_cons (de_var 1) (da_cons (de_var 2) (da_cons (de_var 3) da_nil))))) de_str de_non)))))))))
abbrev s_hex_number : Stmt := (top 32)
abbrev N_hex_number : List Str := [("group" : Str), ("found" : Str), ("sign" : Str)]
theorem sc_hex_number : FnScope N_hex_number [("group" : Str)] (defScope s_hex_number) := ⟨rfl, rfl, rfl, by decide +kernel, rfl, by decide +kernel, by decide +kernel⟩
theorem ok_hex_number (T : Tx K mg) : FG P w K mg base 1 "hex_number" d_hex_number := by
  refine ⟨?_, T.kp_hex_number, T.g_hex_number⟩
  refine fd_of (k := 0) T.d_hex_number sc_hex_number (fun _ _ _ _ _ _ us hl => match us, hl with | [_], _ => rfl) (by decide) (fun cdv A outer s H E w0 hr => ?_)
  have nd := sc_hex_number.nd
  have hu := hr.units
  have tk := takes_of (X := cxOf (L2.CX P w) P w K mg base N_hex_number "hex_number" (defScope s_hex_number) (He.ga K "hex_number") cdv A outer s H E) (E := E) rfl rfl rfl rfl
  exact (dss_cons (ds_set (i := 1) nd rfl (Or.inl rfl) de_int)
      (dss_cons (ds_for (passes_of rfl) rfl (di_any (de_bm0 PySem.F.plainAttrs_str PySem.F.slot_str_lower PySem.F.type_str_lower jm_lower (de_var 0))) (dg_name (i := 2) nd rfl (Or.inl rfl))
      (dss_wip (dss_one (ds_set (i := 1) nd rfl (Or.inl rfl) (de_bin j_add (de_bin j_mul (de_var 1) de_int) (de_bm PySem.F.plainAttrs_str PySem.F.slot_str_index PySem.F.type_str_index (jm_index rfl) (de_gs T.s_HEX) (da_cons (de_var 2) da_nil)))))))
      (dss_one (ds_ret (de_var 1)))))
abbrev s_read_groups : Stmt := (top 33)
abbrev N_read_groups : List Str := [("text" : Str), ("why" : Str), ("ahead" : Str), ("behind" : Str), ("quad" : Str), ("last" : Str), ("first" : Str), ("number" : Str), ("more" : Str), ("found" : Str), ("group" : Str)]
theorem sc_read_groups : FnScope N_read_groups [("text" : Str)] (defScope s_read_groups) := ⟨rfl, rfl, rfl, by decide +kernel, rfl, by decide +kernel, by decide +kernel⟩
theorem ok_read_groups (T : Tx K mg) : FG P w K mg base 5 "read_groups" d_read_groups := by
  refine ⟨?_, T.kp_read_groups, T.g_read_groups⟩
  have h_ok_groups_fault := ok_groups_fault (P := P) (w := w) (base := base) T
  have h_fx_BadText := fx_BadText (P := P) (w := w) (base := base) T
  have h_ok_parts_of := ok_parts_of (P := P) (w := w) (base := base) T
  have h_ok_hex_number := ok_hex_number (P := P) (w := w) (base := base) T
  have h_ok_read_quad := ok_read_quad (P := P) (w := w) (base := base) T
  refine fd_of (k := 4) T.d_read_groups sc_read_groups (fun _ _ _ _ _ _ us hl => match us, hl with | [_], _ => rfl) (by decide) (fun cdv A outer s H E w0 hr => ?_)
  have nd := sc_read_groups.nd
  have hu := hr.units
  have tk := takes_of (X := cxOf (L2.CX P w) P w K mg base N_read_groups "read_groups" (defScope s_read_groups) (He.ga K "read_groups") cdv A outer s H E) (E := E) rfl rfl rfl rfl
  exact (dss_cons (ds_set (i := 1) nd rfl (Or.inl rfl) (de_call h_ok_groups_fault (hr.mono (by decide)) tk (da_cons (de_var 0) da_nil)))
      (dss_cons (ds_if (dt_cmp j_isnot (de_var 1) de_non) (dss_one (ds_raiseI h_fx_BadText (hr.mono (by decide)) tk (de_var 1)))
      dss_nil)
      (dss_cons (ds_asg (de_call h_ok_parts_of (hr.mono (by decide)) tk (da_cons (de_var 0) da_nil)) (dg_tup rfl (dgs_cons (dg_name (i := 2) nd rfl (Or.inl rfl)) (dgs_cons (dg_name (i := 3) nd rfl (Or.inl rfl)) (dgs_cons (dg_name (i := 4) nd rfl (Or.inl rfl)) dgs_nil)))))
      (dss_cons (ds_setLc (i := 5) (own := [(("group" : Str), 10)]) rfl nd rfl rfl (sw_true rfl rfl rfl (by decide +kernel)) (di_any (de_or jt_tru (de_var 3) (de_one (de_lst da_nil)))) (blkOk_by (own := [(("group" : Str), 10)]) (N := N_read_groups) (sc := defScope s_read_groups) (by decide +kernel)) (by decide) (fun _ _ _ _ _ => (dg_name (i := 10) nd rfl (Or.inl rfl))) (fun _ _ _ _ _ => dts_nil) (fun _ _ _ _ _ => (de_call h_ok_hex_number (hr.mono (by decide)) takes0 (da_cons (de_var 10) da_nil))))
      (dss_cons (ds_setLc (i := 6) (own := [(("group" : Str), 10)]) rfl nd rfl rfl (sw_true rfl rfl rfl (by decide +kernel)) (di_any (de_var 2)) (blkOk_by (own := [(("group" : Str), 10)]) (N := N_read_groups) (sc := defScope s_read_groups) (by decide +kernel)) (by decide) (fun _ _ _ _ _ => (dg_name (i := 10) nd rfl (Or.inl rfl))) (fun _ _ _ _ _ => dts_nil) (fun _ _ _ _ _ => (de_call h_ok_hex_number (hr.mono (by decide)) takes0 (da_cons (de_var 10) da_nil))))
      (dss_cons (ds_if (dt_cmp (j_ne hu) (de_var 4) de_str) (dss_cons (ds_set (i := 7) nd rfl (Or.inl rfl) (de_call h_ok_read_quad (hr.mono (by decide)) tk (da_cons (de_var 4) da_nil)))
      (dss_cons (ds_set (i := 8) nd rfl (Or.inl rfl) (de_lst (da_cons (de_bin j_shr (de_var 7) de_int) (da_cons (de_bin j_and (de_var 7) de_int) da_nil))))
      (dss_one (ds_asg (de_if (dt_cmp j_isnot (de_var 3) de_non) (de_tup (da_cons (de_var 6) (da_cons (de_bin j_add (de_var 5) (de_var 8)) da_nil))) (de_tup (da_cons (de_bin j_add (de_var 6) (de_var 8)) (da_cons (de_var 5) da_nil)))) (dg_tup rfl (dgs_cons (dg_name (i := 6) nd rfl (Or.inl rfl)) (dgs_cons (dg_name (i := 5) nd rfl (Or.inl rfl)) dgs_nil)))))))
      dss_nil)
      (dss_cons (ds_set (i := 9) nd rfl (Or.inl rfl) de_int)
      (dss_cons (ds_for (passes_of rfl) rfl (di_any (de_bin j_add (de_bin j_add (de_var 6) (de_bin j_mul (de_lst (da_cons de_int da_nil)) (de_bin j_sub (de_bin j_sub de_int (de_callB jc_len T.f_len bb_len (da_cons (de_var 6) da_nil))) (de_callB jc_len T.f_len bb_len (da_cons (de_var 5) da_nil))))) (de_var 5))) (dg_name (i := 10) nd rfl (Or.inl rfl))
      (dss_one (ds_set (i := 9) nd rfl (Or.inl rfl) (de_bin j_add (de_bin j_mul (de_var 9) de_int) (de_var 10)))))
      (dss_one (ds_ret (de_var 9)))))))))))
abbrev s_BadBytes___init__ : Stmt := (inClass (top 6) 0)
abbrev N_BadBytes___init__ : List Str := ["self", "length"]
theorem sc_BadBytes___init__ : FnScope N_BadBytes___init__ ["self", "length"] (defScope s_BadBytes___init__) := ⟨rfl, rfl, rfl, by decide +kernel, rfl, by decide +kernel, by decide +kernel⟩
theorem fx_BadBytes (T : Tx K mg) : FX P w K mg base "BadBytes" "length" := fx_of T.xi_BadBytes__length T.g_BadBytes T.dm_BadBytes____init__ sc_BadBytes___init__ rfl (fun _ _ _ _ _ _ us hl => match us, hl with | [_, _], _ => rfl) (fun E e => by rw [e]; exact ⟨Or.inl rfl, Or.inl rfl⟩) ⟨by decide, by decide, by decide, by decide⟩ (fun E e => rfl)
abbrev s_number_of : Stmt := (top 43)
abbrev N_number_of : List Str := [("value" : Str), ("width" : Str)]
theorem sc_number_of : FnScope N_number_of [("value" : Str), ("width" : Str)] (defScope s_number_of) := ⟨rfl, rfl, rfl, by decide +kernel, rfl, by decide +kernel, by decide +kernel⟩
theorem ok_number_of (T : Tx K mg) : FG P w K mg base 6 "number_of" d_number_of := by
  refine ⟨?_, T.kp_number_of, T.g_number_of⟩
  have h_ok_is_integer := ok_is_integer (P := P) (w := w) (base := base) T
  have h_ok_is_from := ok_is_from (P := P) (w := w) (base := base) T
  have h_fx_BadNumber := fx_BadNumber (P := P) (w := w) (base := base) T
  have h_ok_read_quad := ok_read_quad (P := P) (w := w) (base := base) T
  have h_ok_read_groups := ok_read_groups (P := P) (w := w) (base := base) T
  have h_fx_BadBytes := fx_BadBytes (P := P) (w := w) (base := base) T
  refine fd_of (k := 5) T.d_number_of sc_number_of (fun _ _ _ _ _ _ us hl => match us, hl with | [_, _], _ => rfl) (by decide) (fun cdv A outer s H E w0 hr => ?_)
  have nd := sc_number_of.nd
  have hu := hr.units
  have tk := takes_of (X := cxOf (L2.CX P w) P w K mg base N_number_of "number_of" (defScope s_number_of) (He.ga K "number_of") cdv A outer s H E) (E := E) rfl rfl rfl rfl
  exact (dss_cons (ds_if (dt_val jt_tru (de_call h_ok_is_integer (hr.mono (by decide)) tk (da_cons (de_var 0) da_nil))) (dss_cons (ds_if (dt_not (dt_val jt_tru (de_call h_ok_is_from (hr.mono (by decide)) tk (da_cons (de_var 0) (da_cons de_int (da_cons (de_bin j_sub (de_bin j_shl de_int (de_var 1)) de_int) da_nil)))))) (dss_one (ds_raiseI h_fx_BadNumber (hr.mono (by decide)) tk (de_var 0)))
      dss_nil)
      (dss_one (ds_ret (de_var 0))))
      dss_nil)
      (dss_cons (ds_if (dt_val jt_tru (de_callB (jc_isi T.kits_0) T.f_isinstance bb_isinstance (da_cons (de_var 0) (da_cons (de_ty T.f_str bb_str) da_nil)))) (dss_one (ds_ret (de_if (dt_cmp (j_eq hu) (de_var 1) (de_gi T.i_WIDTH4)) (de_call h_ok_read_quad (hr.mono (by decide)) tk (da_cons (de_var 0) da_nil)) (de_call h_ok_read_groups (hr.mono (by decide)) tk (da_cons (de_var 0) da_nil)))))
      dss_nil)
      (dss_cons (ds_if (dt_not (dt_val jt_tru (de_callB (jc_isi T.kits_0) T.f_isinstance bb_isinstance (da_cons (de_var 0) (da_cons (de_ty T.f_bytes bb_bytes) da_nil))))) (dss_one (ds_raise0 T.xc_BadKind tk T.g_BadKind))
      dss_nil)
      (dss_cons (ds_if (dt_cmp (j_ne hu) (de_callB jc_len T.f_len bb_len (da_cons (de_var 0) da_nil)) (de_bin j_fdiv (de_var 1) de_int)) (dss_one (ds_raiseI h_fx_BadBytes (hr.mono (by decide)) tk (de_callB jc_len T.f_len bb_len (da_cons (de_var 0) da_nil))))
      dss_nil)
      (dss_one (ds_ret (de_fromB T.f_int (da_cons (de_var 0) (da_cons de_str da_nil)))))))))
abbrev s_Address4___init__ : Stmt := (inClass (top 44) 2)
abbrev N_Address4___init__ : List Str := [("self" : Str), ("value" : Str)]
theorem sc_Address4___init__ : FnScope N_Address4___init__ [("self" : Str), ("value" : Str)] (defScope s_Address4___init__) := ⟨rfl, rfl, rfl, by decide +kernel, rfl, by decide +kernel, by decide +kernel⟩
theorem ok_Address4___init__ (T : Tx K mg) : FI P w K mg base 7 "Address4" (He.ma K (He.ga K "Address4") "__init__") i_Address4___init__ := by
  have h_ok_ta_number_0 := ok_ta_number_0 (P := P) (w := w) (base := base) T
  have h_ok_number_of := ok_number_of (P := P) (w := w) (base := base) T
  refine fi_of (k := 6) T.dm_Address4____init__ sc_Address4___init__ (fun _ _ _ _ _ _ us hl => match us, hl with | [_, _], _ => rfl) (by decide) (by decide) (fun cdv A outer s H E w0 hr => ?_)
  have nd := sc_Address4___init__.nd
  have hu := hr.units
  have tk := takes_of (X := cxOf (L2.CX P w) P w K mg base N_Address4___init__ "Address4.__init__" (defScope s_Address4___init__) (He.ma K (He.ga K "Address4") "__init__") cdv A outer s H E) (E := E) rfl rfl rfl rfl
  exact (dss_one (ds_selfF (i := 0) T.c_Address4 T.na_Address4__number (de_if (dt_val jt_tru (de_callB (jc_isi T.kits_0) T.f_isinstance bb_isinstance (da_cons (de_var 1) (da_cons (de_cls T.g_Address4) da_nil)))) (de_atr h_ok_ta_number_0 (hr.mono (by decide)) (de_var 1)) (de_call h_ok_number_of (hr.mono (by decide)) tk (da_cons (de_var 1) (da_cons (de_gi T.i_WIDTH4) da_nil))))))
theorem cg_Address4 (T : Tx K mg) : CG P w K mg base 7 "Address4" i_Address4___init__ := ⟨T.mk_Address4, ok_Address4___init__ (P := P) (w := w) (base := base) T, T.g_Address4⟩
abbrev s_Address6___init__ : Stmt := (inClass (top 45) 2)
abbrev N_Address6___init__ : List Str := [("self" : Str), ("value" : Str)]
theorem sc_Address6___init__ : FnScope N_Address6___init__ [("self" : Str), ("value" : Str)] (defScope s_Address6___init__) := ⟨rfl, rfl, rfl, by decide +kernel, rfl, by decide +kernel, by decide +kernel⟩
theorem ok_Address6___init__ (T : Tx K mg) : FI P w K mg base 7 "Address6" (He.ma K (He.ga K "Address6") "__init__") i_Address6___init__ := by
  have h_ok_ta_number_0 := ok_ta_number_0 (P := P) (w := w) (base := base) T
  have h_ok_number_of := ok_number_of (P := P) (w := w) (base := base) T
  refine fi_of (k := 6) T.dm_Address6____init__ sc_Address6___init__ (fun _ _ _ _ _ _ us hl => match us, hl with | [_, _], _ => rfl) (by decide) (by decide) (fun cdv A outer s H E w0 hr => ?_)
  have nd := sc_Address6___init__.nd
  have hu := hr.units
  have tk := takes_of (X := cxOf (L2.CX P w) P w K mg base N_Address6___init__ "Address6.__init__" (defScope s_Address6___init__) (He.ma K (He.ga K "Address6") "__init__") cdv A outer s H E) (E := E) rfl rfl rfl rfl
  exact (dss_one (ds_selfF (i := 0) T.c_Address6 T.na_Address6__number (de_if (dt_val jt_tru (de_callB (jc_isi T.kits_0) T.f_isinstance bb_isinstance (da_cons (de_var 1) (da_cons (de_cls T.g_Address6) da_nil)))) (de_atr h_ok_ta_number_0 (hr.mono (by decide)) (de_var 1)) (de_call h_ok_number_of (hr.mono (by decide)) tk (da_cons (de_var 1) (da_cons (de_gi T.i_WIDTH6) da_nil))))))
theorem cg_Address6 (T : Tx K mg) : CG P w K mg base 7 "Address6" i_Address6___init__ := ⟨T.mk_Address6, ok_Address6___init__ (P := P) (w := w) (base := base) T, T.g_Address6⟩
abbrev s_BadPrefix___init__ : Stmt := (inClass (top 7) 0)
abbrev N_BadPrefix___init__ : List Str := ["self", "length"]
theorem sc_BadPrefix___init__ : FnScope N_BadPrefix___init__ ["self", "length"] (defScope s_BadPrefix___init__) := ⟨rfl, rfl, rfl, by decide +kernel, rfl, by decide +kernel, by decide +kernel⟩
theorem fx_BadPrefix (T : Tx K mg) : FX P w K mg base "BadPrefix" "length" := fx_of T.xi_BadPrefix__length T.g_BadPrefix T.dm_BadPrefix____init__ sc_BadPrefix___init__ rfl (fun _ _ _ _ _ _ us hl => match us, hl with | [_, _], _ => rfl) (fun E e => by rw [e]; exact ⟨Or.inl rfl, Or.inl rfl⟩) ⟨by decide, by decide, by decide, by decide⟩ (fun E e => rfl)
abbrev s_HostBits___init__ : Stmt := (inClass (top 8) 0)
abbrev N_HostBits___init__ : List Str := ["self", "told"]
theorem sc_HostBits___init__ : FnScope N_HostBits___init__ ["self", "told"] (defScope s_HostBits___init__) := ⟨rfl, rfl, rfl, by decide +kernel, rfl, by decide +kernel, by decide +kernel⟩
theorem fx_HostBits (T : Tx K mg) : FX P w K mg base "HostBits" "told" := fx_of T.xi_HostBits__told T.g_HostBits T.dm_HostBits____init__ sc_HostBits___init__ rfl (fun _ _ _ _ _ _ us hl => match us, hl with | [_, _], _ => rfl) (fun E e => by rw [e]; exact ⟨Or.inl rfl, Or.inl rfl⟩) ⟨by decide, by decide, by decide, by decide⟩ (fun E e => rfl)
abbrev s__law_marks : Stmt := (top 51)
abbrev N__law_marks : List Str := [("_law_e" : Str), ("_law_found" : Str)]
theorem sc__law_marks : FnScope N__law_marks [("_law_e" : Str)] (defScope s__law_marks) := ⟨rfl, rfl, rfl, by decide +kernel, rfl, by decide +kernel, by decide +kernel⟩
theorem ok__law_marks (T : Tx K mg) : FG P w K mg base 1 "_law_marks" d__law_marks := by
  refine ⟨?_, T.kp__law_marks, T.g__law_marks⟩
  refine fd_of (k := 0) T.d__law_marks sc__law_marks (fun _ _ _ _ _ _ us hl => match us, hl with | [_], _ => rfl) (by decide) (fun cdv A outer s H E w0 hr => ?_)
  have nd := sc__law_marks.nd
  have hu := hr.units
  have tk := takes_of (X := cxOf (L2.CX P w) P w K mg base N__law_marks "_law_marks" (defScope s__law_marks) (He.ga K "_law_marks") cdv A outer s H E) (E := E) rfl rfl rfl rfl
  exact (dss_cons (ds_set (i := 1) nd rfl (Or.inl rfl) (de_lst (da_cons (de_callB (jc_isiX T.xk_0 (jc_isi T.kits_0)) T.f_isinstance bb_isinstance (da_cons (de_var 0) (da_cons (de_cls T.g_BadKind) da_nil))) (da_cons (de_callB (jc_isiX T.xk_0 (jc_isi T.kits_0)) T.f_isinstance bb_isinstance (da_cons (de_var 0) (da_cons (de_cls T.g_BadNumber) da_nil))) (da_cons (de_callB (jc_isiX T.xk_0 (jc_isi T.kits_0)) T.f_isinstance bb_isinstance (da_cons (de_var 0) (da_cons (de_cls T.g_BadText) da_nil))) (da_cons (de_callB (jc_isiX T.xk_0 (jc_isi T.kits_0)) T.f_isinstance bb_isinstance (da_cons (de_var 0) (da_cons (de_cls T.g_BadBytes) da_nil))) da_nil))))))
      (dss_cons (ds_set (i := 1) nd rfl (Or.inl rfl) (de_bin j_add (de_var 1) (de_lst (da_cons (de_callB (jc_isiX T.xk_0 (jc_isi T.kits_0)) T.f_isinstance bb_isinstance (da_cons (de_var 0) (da_cons (de_cls T.g_BadPrefix) da_nil))) (da_cons (de_callB (jc_isiX T.xk_0 (jc_isi T.kits_0)) T.f_isinstance bb_isinstance (da_cons (de_var 0) (da_cons (de_cls T.g_HostBits) da_nil))) (da_cons (de_callB (jc_isiX T.xk_0 (jc_isi T.kits_0)) T.f_isinstance bb_isinstance (da_cons (de_var 0) (da_cons (de_cls T.g_Mixed) da_nil))) (da_cons (de_callB (jc_isiX T.xk_0 (jc_isi T.kits_0)) T.f_isinstance bb_isinstance (da_cons (de_var 0) (da_cons (de_cls T.g_NotWithin) da_nil))) da_nil)))))))
      (dss_cons (ds_set (i := 1) nd rfl (Or.inl rfl) (de_bin j_add (de_var 1) (de_lst (da_cons (de_callB (jc_isiX T.xk_0 (jc_isi T.kits_0)) T.f_isinstance bb_isinstance (da_cons (de_var 0) (da_cons (de_cls T.g_BadRange) da_nil))) (da_cons (de_callB (jc_isiX T.xk_0 (jc_isi T.kits_0)) T.f_isinstance bb_isinstance (da_cons (de_var 0) (da_cons (de_cls T.g_BadWord) da_nil))) (da_cons (de_callB (jc_isiX T.xk_0 (jc_isi T.kits_0)) T.f_isinstance bb_isinstance (da_cons (de_var 0) (da_cons (de_cls T.g_NotThere) da_nil))) (da_cons (de_callB (jc_isiX T.xk_0 (jc_isi T.kits_0)) T.f_isinstance bb_isinstance (da_cons (de_var 0) (da_cons (de_cls T.g_NoMatch) da_nil))) da_nil)))))))
      (dss_one (ds_ret (de_var 1))))))
abbrev s_Address4___eq__ : Stmt := (inClass (top 44) 13)
abbrev N_Address4___eq__ : List Str := [("self" : Str), ("other" : Str)]
theorem sc_Address4___eq__ : FnScope N_Address4___eq__ [("self" : Str), ("other" : Str)] (defScope s_Address4___eq__) := ⟨rfl, rfl, rfl, by decide +kernel, rfl, by decide +kernel, by decide +kernel⟩
theorem ok_Address4___eq__ (T : Tx K mg) : FD P w K mg base 2 (He.ma K (He.ga K "Address4") "__eq__") d_Address4___eq__ := by
  have h_ok_ta_number_0 := ok_ta_number_0 (P := P) (w := w) (base := base) T
  refine fd_of (k := 1) T.dm_Address4____eq__ sc_Address4___eq__ (fun _ _ _ _ _ _ us hl => match us, hl with | [_, _], _ => rfl) (by decide) (fun cdv A outer s H E w0 hr => ?_)
  have nd := sc_Address4___eq__.nd
  have hu := hr.units
  have tk := takes_of (X := cxOf (L2.CX P w) P w K mg base N_Address4___eq__ "Address4.__eq__" (defScope s_Address4___eq__) (He.ma K (He.ga K "Address4") "__eq__") cdv A outer s H E) (E := E) rfl rfl rfl rfl
  exact (dss_cons (ds_if (dt_not (dt_val jt_tru (de_callB (jc_isi T.kits_0) T.f_isinstance bb_isinstance (da_cons (de_var 1) (da_cons (de_cls T.g_Address4) da_nil))))) (dss_one (ds_ret de_bl))
      dss_nil)
      (dss_one (ds_ret (de_cmp (j_eq hu) (de_atr h_ok_ta_number_0 (hr.mono (by decide)) (de_var 0)) (de_atr h_ok_ta_number_0 (hr.mono (by decide)) (de_var 1))))))
abbrev s_Address6___eq__ : Stmt := (inClass (top 45) 14)
abbrev N_Address6___eq__ : List Str := [("self" : Str), ("other" : Str)]
theorem sc_Address6___eq__ : FnScope N_Address6___eq__ [("self" : Str), ("other" : Str)] (defScope s_Address6___eq__) := ⟨rfl, rfl, rfl, by decide +kernel, rfl, by decide +kernel, by decide +kernel⟩
theorem ok_Address6___eq__ (T : Tx K mg) : FD P w K mg base 2 (He.ma K (He.ga K "Address6") "__eq__") d_Address6___eq__ := by
  have h_ok_ta_number_0 := ok_ta_number_0 (P := P) (w := w) (base := base) T
  refine fd_of (k := 1) T.dm_Address6____eq__ sc_Address6___eq__ (fun _ _ _ _ _ _ us hl => match us, hl with | [_, _], _ => rfl) (by decide) (fun cdv A outer s H E w0 hr => ?_)
  have nd := sc_Address6___eq__.nd
  have hu := hr.units
  have tk := takes_of (X := cxOf (L2.CX P w) P w K mg base N_Address6___eq__ "Address6.__eq__" (defScope s_Address6___eq__) (He.ma K (He.ga K "Address6") "__eq__") cdv A outer s H E) (E := E) rfl rfl rfl rfl
  exact (dss_cons (ds_if (dt_not (dt_val jt_tru (de_callB (jc_isi T.kits_0) T.f_isinstance bb_isinstance (da_cons (de_var 1) (da_cons (de_cls T.g_Address6) da_nil))))) (dss_one (ds_ret de_bl))
      dss_nil)
      (dss_one (ds_ret (de_cmp (j_eq hu) (de_atr h_ok_ta_number_0 (hr.mono (by decide)) (de_var 0)) (de_atr h_ok_ta_number_0 (hr.mono (by decide)) (de_var 1))))))
theorem ok_tm___eq___8 (T : Tx K mg) : MTbl P w K mg base 2 "__eq__" tm___eq___8 := (mtbl_cons T.c_Address4 T.m_Address4____eq__ (FD.up (k := 2) (ok_Address4___eq__ (P := P) (w := w) (base := base) T)) (mtbl_cons T.c_Address6 T.m_Address6____eq__ (FD.up (k := 2) (ok_Address6___eq__ (P := P) (w := w) (base := base) T)) mtbl_nil))
theorem ne_tm___eq___8 (T : Tx K mg) : NeOk K tm___eq___8 := (ne_cons T.no_Address4 (ne_cons T.no_Address6 ne_nil))
theorem ok_tm___str___10 (T : Tx K mg) : MTbl P w K mg base 0 "__str__" tm___str___10 := mtbl_nil
theorem fm_tm___str___10 (T : Tx K mg) : FmtOk K tm___str___10 := fm_nil
abbrev s_quad_parts : Stmt := (top 20)
abbrev N_quad_parts : List Str := [("number" : Str), ("shift" : Str)]
theorem sc_quad_parts : FnScope N_quad_parts [("number" : Str)] (defScope s_quad_parts) := ⟨rfl, rfl, rfl, by decide +kernel, rfl, by decide +kernel, by decide +kernel⟩
theorem ok_quad_parts (T : Tx K mg) : FG P w K mg base 3 "quad_parts" d_quad_parts := by
  refine ⟨?_, T.kp_quad_parts, T.g_quad_parts⟩
  have h_ok_tm___str___10 := ok_tm___str___10 (P := P) (w := w) (base := base) T
  refine fd_of (k := 2) T.d_quad_parts sc_quad_parts (fun _ _ _ _ _ _ us hl => match us, hl with | [_], _ => rfl) (by decide) (fun cdv A outer s H E w0 hr => ?_)
  have nd := sc_quad_parts.nd
  have hu := hr.units
  have tk := takes_of (X := cxOf (L2.CX P w) P w K mg base N_quad_parts "quad_parts" (defScope s_quad_parts) (He.ga K "quad_parts") cdv A outer s H E) (E := E) rfl rfl rfl rfl
  exact (dss_one (ds_ret (de_lc (own := [(("shift" : Str), 1)]) rfl nd (di_any (de_tup (da_cons de_int (da_cons de_int (da_cons de_int (da_cons de_int da_nil)))))) (blkOk_by (own := [(("shift" : Str), 1)]) (N := N_quad_parts) (sc := defScope s_quad_parts) (by decide +kernel)) (by decide) (fun _ _ _ _ _ => (dg_name (i := 1) nd rfl (Or.inl rfl))) (fun _ _ _ _ _ => dts_nil) (fun _ _ _ _ _ => (de_joined1 (de_fmt h_ok_tm___str___10 (fm_tm___str___10 T) (hr.mono (by decide)) (de_bin j_and (de_bin j_shr (de_var 0) (de_var 1)) de_int)))))))
abbrev s_quad_text : Stmt := (top 21)
abbrev N_quad_text : List Str := [("number" : Str)]
theorem sc_quad_text : FnScope N_quad_text [("number" : Str)] (defScope s_quad_text) := ⟨rfl, rfl, rfl, by decide +kernel, rfl, by decide +kernel, by decide +kernel⟩
theorem ok_quad_text (T : Tx K mg) : FG P w K mg base 4 "quad_text" d_quad_text := by
  refine ⟨?_, T.kp_quad_text, T.g_quad_text⟩
  have h_ok_quad_parts := ok_quad_parts (P := P) (w := w) (base := base) T
  refine fd_of (k := 3) T.d_quad_text sc_quad_text (fun _ _ _ _ _ _ us hl => match us, hl with | [_], _ => rfl) (by decide) (fun cdv A outer s H E w0 hr => ?_)
  have nd := sc_quad_text.nd
  have hu := hr.units
  have tk := takes_of (X := cxOf (L2.CX P w) P w K mg base N_quad_text "quad_text" (defScope s_quad_text) (He.ga K "quad_text") cdv A outer s H E) (E := E) rfl rfl rfl rfl
  exact (dss_one (ds_ret (de_bm PySem.F.plainAttrs_str PySem.F.slot_str_join PySem.F.type_str_join (jm_join rfl) de_str (da_cons (de_call h_ok_quad_parts (hr.mono (by decide)) tk (da_cons (de_var 0) da_nil)) da_nil))))
abbrev s_Address4___str__ : Stmt := (inClass (top 44) 12)
abbrev N_Address4___str__ : List Str := [("self" : Str)]
theorem sc_Address4___str__ : FnScope N_Address4___str__ [("self" : Str)] (defScope s_Address4___str__) := ⟨rfl, rfl, rfl, by decide +kernel, rfl, by decide +kernel, by decide +kernel⟩
theorem ok_Address4___str__ (T : Tx K mg) : FD P w K mg base 5 (He.ma K (He.ga K "Address4") "__str__") d_Address4___str__ := by
  have h_ok_ta_number_0 := ok_ta_number_0 (P := P) (w := w) (base := base) T
  have h_ok_quad_text := ok_quad_text (P := P) (w := w) (base := base) T
  have h_ok_tm___str___10 := ok_tm___str___10 (P := P) (w := w) (base := base) T
  refine fd_of (k := 4) T.dm_Address4____str__ sc_Address4___str__ (fun _ _ _ _ _ _ us hl => match us, hl with | [_], _ => rfl) (by decide) (fun cdv A outer s H E w0 hr => ?_)
  have nd := sc_Address4___str__.nd
  have hu := hr.units
  have tk := takes_of (X := cxOf (L2.CX P w) P w K mg base N_Address4___str__ "Address4.__str__" (defScope s_Address4___str__) (He.ma K (He.ga K "Address4") "__str__") cdv A outer s H E) (E := E) rfl rfl rfl rfl
  exact (dss_one (ds_ret (de_joined1 (de_fmt h_ok_tm___str___10 (fm_tm___str___10 T) (hr.mono (by decide)) (de_call h_ok_quad_text (hr.mono (by decide)) tk (da_cons (de_atr h_ok_ta_number_0 (hr.mono (by decide)) (de_var 0)) da_nil))))))
abbrev s_group_numbers : Stmt := (top 34)
abbrev N_group_numbers : List Str := [("number" : Str), ("place" : Str)]
theorem sc_group_numbers : FnScope N_group_numbers [("number" : Str)] (defScope s_group_numbers) := ⟨rfl, rfl, rfl, by decide +kernel, rfl, by decide +kernel, by decide +kernel⟩
theorem ok_group_numbers (T : Tx K mg) : FG P w K mg base 1 "group_numbers" d_group_numbers := by
  refine ⟨?_, T.kp_group_numbers, T.g_group_numbers⟩
  refine fd_of (k := 0) T.d_group_numbers sc_group_numbers (fun _ _ _ _ _ _ us hl => match us, hl with | [_], _ => rfl) (by decide) (fun cdv A outer s H E w0 hr => ?_)
  have nd := sc_group_numbers.nd
  have hu := hr.units
  have tk := takes_of (X := cxOf (L2.CX P w) P w K mg base N_group_numbers "group_numbers" (defScope s_group_numbers) (He.ga K "group_numbers") cdv A outer s H E) (E := E) rfl rfl rfl rfl
  exact (dss_one (ds_ret (de_lc (own := [(("place" : Str), 1)]) rfl nd (di_range1 T.f_range (da_cons de_int da_nil)) (blkOk_by (own := [(("place" : Str), 1)]) (N := N_group_numbers) (sc := defScope s_group_numbers) (by decide +kernel)) (by decide) (fun _ _ _ _ _ => (dg_name (i := 1) nd rfl (Or.inl rfl))) (fun _ _ _ _ _ => dts_nil) (fun _ _ _ _ _ => (de_bin j_and (de_bin j_shr (de_var 0) (de_bin j_sub de_int (de_bin j_mul de_int (de_var 1)))) de_int)))))
abbrev s_longest_run : Stmt := (top 35)
abbrev N_longest_run : List Str := [("numbers" : Str), ("best" : Str), ("many" : Str), ("begin" : Str), ("place" : Str), ("number" : Str)]
theorem sc_longest_run : FnScope N_longest_run [("numbers" : Str)] (defScope s_longest_run) := ⟨rfl, rfl, rfl, by decide +kernel, rfl, by decide +kernel, by decide +kernel⟩
theorem ok_longest_run (T : Tx K mg) : FG P w K mg base 1 "longest_run" d_longest_run := by
  refine ⟨?_, T.kp_longest_run, T.g_longest_run⟩
  refine fd_of (k := 0) T.d_longest_run sc_longest_run (fun _ _ _ _ _ _ us hl => match us, hl with | [_], _ => rfl) (by decide) (fun cdv A outer s H E w0 hr => ?_)
  have nd := sc_longest_run.nd
  have hu := hr.units
  have tk := takes_of (X := cxOf (L2.CX P w) P w K mg base N_longest_run "longest_run" (defScope s_longest_run) (He.ga K "longest_run") cdv A outer s H E) (E := E) rfl rfl rfl rfl
  exact (dss_cons (ds_asg (de_tup (da_cons de_int (da_cons de_int da_nil))) (dg_tup rfl (dgs_cons (dg_name (i := 1) nd rfl (Or.inl rfl)) (dgs_cons (dg_name (i := 2) nd rfl (Or.inl rfl)) dgs_nil))))
      (dss_cons (ds_set (i := 3) nd rfl (Or.inl rfl) de_int)
      (dss_cons (ds_for (passes_of rfl) rfl (di_enum T.f_enumerate (da_cons (de_var 0) da_nil)) (dg_tup rfl (dgs_cons (dg_name (i := 4) nd rfl (Or.inl rfl)) (dgs_cons (dg_name (i := 5) nd rfl (Or.inl rfl)) dgs_nil)))
      (dss_wip (dss_one (ds_if (dt_cmp (j_ne hu) (de_var 5) de_int) (dss_one (ds_set (i := 3) nd rfl (Or.inl rfl) (de_bin j_add (de_var 4) de_int)))
      (dss_one (ds_if (dt_cmp (j_gt hu) (de_bin j_sub (de_bin j_add (de_var 4) de_int) (de_var 3)) (de_var 2)) (dss_one (ds_par (i := 1) (j := 2) rfl nd rfl rfl (by decide) rfl rfl (da_cons (de_var 3) (da_cons (de_bin j_sub (de_bin j_add (de_var 4) de_int) (de_var 3)) da_nil))))
      dss_nil))))))
      (dss_one (ds_ret (de_tup (da_cons (de_var 1) (da_cons (de_var 2) da_nil))))))))
abbrev s_groups_text : Stmt := (top 36)
abbrev N_groups_text : List Str := [("number" : Str), ("numbers" : Str), ("begin" : Str), ("many" : Str), ("texts" : Str), ("one" : Str)]
theorem sc_groups_text : FnScope N_groups_text [("number" : Str)] (defScope s_groups_text) := ⟨rfl, rfl, rfl, by decide +kernel, rfl, by decide +kernel, by decide +kernel⟩
theorem ok_groups_text (T : Tx K mg) : FG P w K mg base 2 "groups_text" d_groups_text := by
  refine ⟨?_, T.kp_groups_text, T.g_groups_text⟩
  have h_ok_group_numbers := ok_group_numbers (P := P) (w := w) (base := base) T
  have h_ok_longest_run := ok_longest_run (P := P) (w := w) (base := base) T
  refine fd_of (k := 1) T.d_groups_text sc_groups_text (fun _ _ _ _ _ _ us hl => match us, hl with | [_], _ => rfl) (by decide) (fun cdv A outer s H E w0 hr => ?_)
  have nd := sc_groups_text.nd
  have hu := hr.units
  have tk := takes_of (X := cxOf (L2.CX P w) P w K mg base N_groups_text "groups_text" (defScope s_groups_text) (He.ga K "groups_text") cdv A outer s H E) (E := E) rfl rfl rfl rfl
  exact (dss_cons (ds_set (i := 1) nd rfl (Or.inl rfl) (de_call h_ok_group_numbers (hr.mono (by decide)) tk (da_cons (de_var 0) da_nil)))
      (dss_cons (ds_asg (de_call h_ok_longest_run (hr.mono (by decide)) tk (da_cons (de_var 1) da_nil)) (dg_tup rfl (dgs_cons (dg_name (i := 2) nd rfl (Or.inl rfl)) (dgs_cons (dg_name (i := 3) nd rfl (Or.inl rfl)) dgs_nil))))
      (dss_cons (ds_setLc (i := 4) (own := [(("one" : Str), 5)]) rfl nd rfl rfl (sw_true rfl rfl rfl (by decide +kernel)) (di_any (de_var 1)) (blkOk_by (own := [(("one" : Str), 5)]) (N := N_groups_text) (sc := defScope s_groups_text) (by decide +kernel)) (by decide) (fun _ _ _ _ _ => (dg_name (i := 5) nd rfl (Or.inl rfl))) (fun _ _ _ _ _ => dts_nil) (fun _ _ _ _ _ => (de_joined1 (de_hex (de_var 5) (fun _ h => pe_fmtX h)))))
      (dss_cons (ds_if (dt_cmp (j_lt hu) (de_var 3) de_int) (dss_one (ds_ret (de_bm PySem.F.plainAttrs_str PySem.F.slot_str_join PySem.F.type_str_join (jm_join rfl) de_str (da_cons (de_var 4) da_nil))))
      dss_nil)
      (dss_one (ds_ret (de_bin j_add (de_bin j_add (de_bm PySem.F.plainAttrs_str PySem.F.slot_str_join PySem.F.type_str_join (jm_join rfl) de_str (da_cons (de_sl (de_var 4) do_none (do_some (de_var 2))) da_nil)) de_str) (de_bm PySem.F.plainAttrs_str PySem.F.slot_str_join PySem.F.type_str_join (jm_join rfl) de_str (da_cons (de_sl (de_var 4) (do_some (de_bin j_add (de_var 2) (de_var 3))) do_none) da_nil)))))))))
theorem ok_tm___str___12 (T : Tx K mg) : MTbl P w K mg base 5 "__str__" tm___str___12 := (mtbl_cons T.c_Address4 T.m_Address4____str__ (FD.up (k := 5) (ok_Address4___str__ (P := P) (w := w) (base := base) T)) mtbl_nil)
theorem fm_tm___str___12 (T : Tx K mg) : FmtOk K tm___str___12 := (fm_cons T.fo_Address4 fm_nil)
abbrev s_Address6___str__ : Stmt := (inClass (top 45) 13)
abbrev N_Address6___str__ : List Str := [("self" : Str)]
theorem sc_Address6___str__ : FnScope N_Address6___str__ [("self" : Str)] (defScope s_Address6___str__) := ⟨rfl, rfl, rfl, by decide +kernel, rfl, by decide +kernel, by decide +kernel⟩
theorem ok_Address6___str__ (T : Tx K mg) : FD P w K mg base 8 (He.ma K (He.ga K "Address6") "__str__") d_Address6___str__ := by
  have h_ok_ta_number_0 := ok_ta_number_0 (P := P) (w := w) (base := base) T
  have h_ok_groups_text := ok_groups_text (P := P) (w := w) (base := base) T
  have h_ok_tm___str___12 := ok_tm___str___12 (P := P) (w := w) (base := base) T
  refine fd_of (k := 7) T.dm_Address6____str__ sc_Address6___str__ (fun _ _ _ _ _ _ us hl => match us, hl with | [_], _ => rfl) (by decide) (fun cdv A outer s H E w0 hr => ?_)
  have nd := sc_Address6___str__.nd
  have hu := hr.units
  have tk := takes_of (X := cxOf (L2.CX P w) P w K mg base N_Address6___str__ "Address6.__str__" (defScope s_Address6___str__) (He.ma K (He.ga K "Address6") "__str__") cdv A outer s H E) (E := E) rfl rfl rfl rfl
  exact (dss_one (ds_ret (de_joined1 (de_fmt h_ok_tm___str___12 (fm_tm___str___12 T) (hr.mono (by decide)) (de_call h_ok_groups_text (hr.mono (by decide)) tk (da_cons (de_atr h_ok_ta_number_0 (hr.mono (by decide)) (de_var 0)) da_nil))))))
theorem ok_tm___str___14 (T : Tx K mg) : MTbl P w K mg base 8 "__str__" tm___str___14 := (mtbl_cons T.c_Address4 T.m_Address4____str__ (FD.up (k := 8) (ok_Address4___str__ (P := P) (w := w) (base := base) T)) (mtbl_cons T.c_Address6 T.m_Address6____str__ (FD.up (k := 8) (ok_Address6___str__ (P := P) (w := w) (base := base) T)) mtbl_nil))
abbrev s_law : Stmt := (top 52)
abbrev N_law : List Str := [("_law_script" : Str), ("_law_k" : Str), ("_law_source_here" : Str), ("_law_number_here" : Str), ("_law_length" : Str), ("_law_told" : Str), ("_law_word" : Str), ("_law_some" : Str), ("_law_place" : Str), ("_law_e" : Str), ("_law_marks_here" : Str)]
theorem sc_law : FnScope N_law [("_law_script" : Str)] (defScope s_law) := ⟨rfl, rfl, rfl, by decide +kernel, rfl, by decide +kernel, by decide +kernel⟩
theorem ok_law (law_pure : LawPure) (T : Tx K mg) : ∃ fd : FuncData, (∀ (s : Shared) (u : Value), BindsTo s fd ⟨[u], []⟩ [("_law_script", u)]) ∧ ∀ base : Heap, FnOk P w K mg base L2.CX0 11 (He.ga K "law") fd ["_law_script"] (spLaw K) := by
  obtain ⟨fd, F⟩ := T.d_law
  refine ⟨fd, fun s v => F.bindsA (ps := ["_law_script"]) (fun _ _ _ _ _ _ us hl => match us, hl with | [_], _ => rfl) s [v] rfl, fun base => law_of (k := 10) F sc_law (fun cdv A outer s H E w0 hr => ?_) law_pure⟩
  have h_ok__law_source := ok__law_source (P := P) (w := w) (base := base) T
  have h_ok__law_number := ok__law_number (P := P) (w := w) (base := base) T
  have h_ok__law_draw := ok__law_draw (P := P) (w := w) (base := base) T
  have h_cg_Address4 := cg_Address4 (P := P) (w := w) (base := base) T
  have h_cg_Address6 := cg_Address6 (P := P) (w := w) (base := base) T
  have h_fx_BadNumber := fx_BadNumber (P := P) (w := w) (base := base) T
  have h_fx_BadText := fx_BadText (P := P) (w := w) (base := base) T
  have h_fx_BadBytes := fx_BadBytes (P := P) (w := w) (base := base) T
  have h_fx_BadPrefix := fx_BadPrefix (P := P) (w := w) (base := base) T
  have h_fx_HostBits := fx_HostBits (P := P) (w := w) (base := base) T
  have h_ok__law_marks := ok__law_marks (P := P) (w := w) (base := base) T
  have h_ok_tm___eq___8 := ok_tm___eq___8 (P := P) (w := w) (base := base) T
  have h_ok_tm___str___14 := ok_tm___str___14 (P := P) (w := w) (base := base) T
  have nd := sc_law.nd
  have hu := hr.units
  exact (dss_cons (ds_for (passes_of rfl) rfl (di_range1 T.f_range (da_cons (de_callB (jc_max rfl) T.f_max bb_max (da_cons de_int (da_cons (de_callB (jc_min rfl) T.f_min bb_min (da_cons de_int (da_cons (de_callB jc_len T.f_len bb_len (da_cons (de_var 0) da_nil)) da_nil))) da_nil))) da_nil)) (dg_name (i := 1) nd rfl (Or.inl rfl))
      (dss_wip (dss_cons (ds_set (i := 2) nd rfl (Or.inl rfl) (de_call h_ok__law_source (hr.mono (by decide)) takes0 (da_cons (de_var 0) (da_cons (de_var 1) da_nil))))
      (dss_cons (ds_par (i := 3) (j := 4) rfl nd rfl rfl (by decide) rfl rfl (da_cons (de_call h_ok__law_number (hr.mono (by decide)) takes0 (da_cons (de_var 2) (da_cons de_int da_nil))) (da_cons (de_ix (j_ix (fun _ _ => rfl)) (de_lst (da_cons (de_call h_ok__law_draw (hr.mono (by decide)) takes0 (da_cons (de_var 2) (da_cons de_int da_nil))) (da_cons (de_neg de_int) (da_cons de_non (da_cons de_str (da_cons de_bl da_nil)))))) (de_call h_ok__law_draw (hr.mono (by decide)) takes0 (da_cons (de_var 2) (da_cons de_int da_nil)))) da_nil)))
      (dss_cons (ds_set (i := 5) nd rfl (Or.inl rfl) (de_ix (j_ix (fun _ _ => rfl)) (de_lst (da_cons (de_cl h_cg_Address4 (hr.mono (by decide)) takes0 (da_cons (de_call h_ok__law_number (hr.mono (by decide)) takes0 (da_cons (de_var 2) (da_cons de_int da_nil))) da_nil)) (da_cons (de_cl h_cg_Address6 (hr.mono (by decide)) takes0 (da_cons (de_var 3) da_nil)) da_nil))) (de_call h_ok__law_draw (hr.mono (by decide)) takes0 (da_cons (de_var 2) (da_cons de_int da_nil)))))
      (dss_cons (ds_set (i := 6) nd rfl (Or.inl rfl) (de_ix (j_ix (fun _ _ => rfl)) (de_lst (da_cons de_str (da_cons de_str (da_cons de_str (da_cons de_str da_nil))))) (de_call h_ok__law_draw (hr.mono (by decide)) takes0 (da_cons (de_var 2) (da_cons de_int da_nil)))))
      (dss_cons (ds_set (i := 7) nd rfl (Or.inl rfl) (de_lst (da_cons (de_newX0 T.xc_BadKind T.g_BadKind) (da_cons (de_newXI h_fx_BadNumber (hr.mono (by decide)) takes0 (de_var 3)) (da_cons (de_newXI h_fx_BadText (hr.mono (by decide)) takes0 (de_var 6)) (da_cons (de_newXI h_fx_BadBytes (hr.mono (by decide)) takes0 (de_var 3)) (da_cons (de_newXI h_fx_BadPrefix (hr.mono (by decide)) takes0 (de_var 4)) (da_cons (de_newXI h_fx_HostBits (hr.mono (by decide)) takes0 (de_var 5)) da_nil))))))))
      (dss_cons (ds_set (i := 7) nd rfl (Or.inl rfl) (de_bin j_add (de_var 7) (de_lst (da_cons (de_newX0 T.xc_Mixed T.g_Mixed) (da_cons (de_newX0 T.xc_NotWithin T.g_NotWithin) (da_cons (de_newX0 T.xc_BadRange T.g_BadRange) (da_cons (de_newX0 T.xc_BadWord T.g_BadWord) (da_cons (de_newX0 T.xc_NotThere T.g_NotThere) (da_cons (de_newX0 T.xc_NoMatch T.g_NoMatch) da_nil)))))))))
      (dss_cons (ds_for (passes_of rfl) rfl (di_enum T.f_enumerate (da_cons (de_var 7) da_nil)) (dg_tup rfl (dgs_cons (dg_name (i := 8) nd rfl (Or.inl rfl)) (dgs_cons (dg_name (i := 9) nd rfl (Or.inl rfl)) dgs_nil)))
      (dss_wip (dss_cons (ds_set (i := 10) nd rfl (Or.inl rfl) (de_call h_ok__law_marks (hr.mono (by decide)) takes0 (da_cons (de_var 9) da_nil)))
      (dss_cons (ds_if (DW.dt (dw_or (dt_cmp (j_ne hu) (de_bm PySem.F.plainAttrs_list PySem.F.slot_list_count PySem.F.type_list_count jm_lcount (de_var 10) (da_cons de_bl da_nil)) de_int) (dw_or1 (dt_cmp (j2_neO h_ok_tm___eq___8 (ne_tm___eq___8 T) T.nfs_0 (hr.mono (by decide)) takes0 (j_ne hu)) (de_bm PySem.F.plainAttrs_list PySem.F.slot_list_index PySem.F.type_list_index jm_lindexB (de_var 10) (da_cons de_bl da_nil)) (de_var 8))))) (dss_one (ds_ret de_bl))
      dss_nil)
      (dss_one (ds_if (DW.dt (dw_or (dt_not (dt_val jt_tru (de_callB (jc_isiX T.xk_0 (jc_isi T.kits_0)) T.f_isinstance bb_isinstance (da_cons (de_var 9) (da_cons (de_cls T.g_NetError) da_nil))))) (dw_or1 (dt_not (dt_val jt_tru (de_callB (jc_isiX T.xk_0 (jc_isi T.kits_0)) T.f_isinstance bb_isinstance (da_cons (de_var 9) (da_cons (de_ty T.f_ValueError bb_ValueError) da_nil)))))))) (dss_one (ds_ret de_bl))
      dss_nil))))))
      (dss_cons (ds_if (dt_cmp (j_ne hu) (de_tup (da_cons (de_xfD T.xf_value (de_ix (j_ix (fun _ _ => rfl)) (de_var 7) de_int)) (da_cons (de_xfD T.xf_why (de_ix (j_ix (fun _ _ => rfl)) (de_var 7) de_int)) (da_cons (de_xfD T.xf_length (de_ix (j_ix (fun _ _ => rfl)) (de_var 7) de_int)) (da_cons (de_callB (jc_repr rfl) T.f_repr bb_repr (da_cons (de_xfD T.xf_length (de_ix (j_ix (fun _ _ => rfl)) (de_var 7) de_int)) da_nil)) da_nil))))) (de_tup (da_cons (de_var 3) (da_cons (de_var 6) (da_cons (de_var 3) (da_cons (de_callB (jc_repr rfl) T.f_repr bb_repr (da_cons (de_var 4) da_nil)) da_nil)))))) (dss_one (ds_ret de_bl))
      dss_nil)
      (dss_one (ds_if (DW.dt (dw_or (dt_cmp (j2_neO h_ok_tm___eq___8 (ne_tm___eq___8 T) T.nfs_0 (hr.mono (by decide)) takes0 (j_ne hu)) (de_xfD T.xf_told (de_ix (j_ix (fun _ _ => rfl)) (de_var 7) de_int)) (de_var 5)) (dw_or1 (dt_cmp (j_ne hu) (de_callT (jc_str h_ok_tm___str___14 (hr.mono (by decide))) T.f_str bb_str (da_cons (de_xfD T.xf_told (de_ix (j_ix (fun _ _ => rfl)) (de_var 7) de_int)) da_nil)) (de_callT (jc_str h_ok_tm___str___14 (hr.mono (by decide))) T.f_str bb_str (da_cons (de_var 5) da_nil)))))) (dss_one (ds_ret de_bl))
      dss_nil))))))))))))
      (dss_one (ds_ret de_bl)))
end
end Dn
namespace Dn
open PySem PySem.W PySem.Spec PyProof.Rows L2 TL Bits An
theorem tx_of {K : Frag} {h : Heap} {mg : Str → Option Value} (X : K.In h) (G : h.Ns mainGlobals mg) (c : SaysM fb fn K) : Tx K mg where
  kp__law_source := c.fact 0
  g__law_source := He.glo_ok X G (c.fact 1)
  d__law_source := c.def_ 0
  f_len := He.free_ok X G (c.fact 2)
  kp__law_mix := c.fact 3
  g__law_mix := He.glo_ok X G (c.fact 4)
  d__law_mix := c.def_ 1
  f_int := He.free_ok X G (c.fact 5)
  kp__law_draw := c.fact 6
  g__law_draw := He.glo_ok X G (c.fact 7)
  d__law_draw := c.def_ 2
  kp__law_number := c.fact 8
  g__law_number := He.glo_ok X G (c.fact 9)
  d__law_number := c.def_ 3
  f_min := He.free_ok X G (c.fact 10)
  f_range := He.free_ok X G (c.fact 11)
  c_Address4 := He.cls_ok (c.fact 12)
  na_Address4__number := He.noat_ok (c.fact 13)
  c_Address6 := He.cls_ok (c.fact 14)
  na_Address6__number := He.noat_ok (c.fact 15)
  kp_is_integer := c.fact 16
  g_is_integer := He.glo_ok X G (c.fact 17)
  d_is_integer := c.def_ 4
  f_isinstance := He.free_ok X G (c.fact 18)
  f_bool := He.free_ok X G (c.fact 19)
  kp_is_from := c.fact 20
  g_is_from := He.glo_ok X G (c.fact 21)
  d_is_from := c.def_ 5
  g_BadNumber := He.glo_ok X G (c.fact 22)
  dm_BadNumber____init__ := c.def_ 6
  kp_part_fault := c.fact 23
  g_part_fault := He.glo_ok X G (c.fact 24)
  d_part_fault := c.def_ 7
  f_all := He.free_ok X G (c.fact 25)
  s_DIGITS := He.str_ok X G (c.fact 26)
  kp_quad_fault := c.fact 27
  g_quad_fault := He.glo_ok X G (c.fact 28)
  d_quad_fault := c.def_ 8
  g_BadText := He.glo_ok X G (c.fact 29)
  dm_BadText____init__ := c.def_ 9
  kp_read_quad := c.fact 30
  g_read_quad := He.glo_ok X G (c.fact 31)
  d_read_quad := c.def_ 10
  kp_quad_place := c.fact 32
  g_quad_place := He.glo_ok X G (c.fact 33)
  d_quad_place := c.def_ 11
  kp_has_wrong_quad := c.fact 34
  g_has_wrong_quad := He.glo_ok X G (c.fact 35)
  d_has_wrong_quad := c.def_ 12
  kp_has_wrong_gaps := c.fact 36
  g_has_wrong_gaps := He.glo_ok X G (c.fact 37)
  d_has_wrong_gaps := c.def_ 13
  kp_has_wrong_ends := c.fact 38
  g_has_wrong_ends := He.glo_ok X G (c.fact 39)
  d_has_wrong_ends := c.def_ 14
  kp_hex_groups := c.fact 40
  g_hex_groups := He.glo_ok X G (c.fact 41)
  d_hex_groups := c.def_ 15
  kp_parts_of := c.fact 42
  g_parts_of := He.glo_ok X G (c.fact 43)
  d_parts_of := c.def_ 16
  kp_has_wrong_count := c.fact 44
  g_has_wrong_count := He.glo_ok X G (c.fact 45)
  d_has_wrong_count := c.def_ 17
  kp_groups_fault := c.fact 46
  g_groups_fault := He.glo_ok X G (c.fact 47)
  d_groups_fault := c.def_ 18
  s_HEX := He.str_ok X G (c.fact 48)
  kp_hex_number := c.fact 49
  g_hex_number := He.glo_ok X G (c.fact 50)
  d_hex_number := c.def_ 19
  kp_read_groups := c.fact 51
  g_read_groups := He.glo_ok X G (c.fact 52)
  d_read_groups := c.def_ 20
  g_BadBytes := He.glo_ok X G (c.fact 53)
  dm_BadBytes____init__ := c.def_ 21
  kp_number_of := c.fact 54
  g_number_of := He.glo_ok X G (c.fact 55)
  d_number_of := c.def_ 22
  f_str := He.free_ok X G (c.fact 56)
  i_WIDTH4 := He.int_ok X G (c.fact 57)
  f_bytes := He.free_ok X G (c.fact 58)
  g_BadKind := He.glo_ok X G (c.fact 59)
  dm_Address4____init__ := c.def_ 23
  g_Address4 := He.glo_ok X G (c.fact 60)
  mk_Address4 := He.mkr_ok (c.fact 61)
  dm_Address6____init__ := c.def_ 24
  g_Address6 := He.glo_ok X G (c.fact 62)
  i_WIDTH6 := He.int_ok X G (c.fact 63)
  mk_Address6 := He.mkr_ok (c.fact 64)
  g_BadPrefix := He.glo_ok X G (c.fact 65)
  dm_BadPrefix____init__ := c.def_ 25
  g_HostBits := He.glo_ok X G (c.fact 66)
  dm_HostBits____init__ := c.def_ 26
  kp__law_marks := c.fact 67
  g__law_marks := He.glo_ok X G (c.fact 68)
  d__law_marks := c.def_ 27
  g_Mixed := He.glo_ok X G (c.fact 69)
  g_NotWithin := He.glo_ok X G (c.fact 70)
  g_BadRange := He.glo_ok X G (c.fact 71)
  g_BadWord := He.glo_ok X G (c.fact 72)
  g_NotThere := He.glo_ok X G (c.fact 73)
  g_NoMatch := He.glo_ok X G (c.fact 74)
  dm_Address4____eq__ := c.def_ 28
  dm_Address6____eq__ := c.def_ 29
  m_Address4____eq__ := He.meth_ok (c.fact 75)
  m_Address6____eq__ := He.meth_ok (c.fact 76)
  kp_quad_parts := c.fact 77
  g_quad_parts := He.glo_ok X G (c.fact 78)
  d_quad_parts := c.def_ 30
  kp_quad_text := c.fact 79
  g_quad_text := He.glo_ok X G (c.fact 80)
  d_quad_text := c.def_ 31
  dm_Address4____str__ := c.def_ 32
  kp_group_numbers := c.fact 81
  g_group_numbers := He.glo_ok X G (c.fact 82)
  d_group_numbers := c.def_ 33
  kp_longest_run := c.fact 83
  g_longest_run := He.glo_ok X G (c.fact 84)
  d_longest_run := c.def_ 34
  f_enumerate := He.free_ok X G (c.fact 85)
  kp_groups_text := c.fact 86
  g_groups_text := He.glo_ok X G (c.fact 87)
  d_groups_text := c.def_ 35
  m_Address4____str__ := He.meth_ok (c.fact 88)
  dm_Address6____str__ := c.def_ 36
  m_Address6____str__ := He.meth_ok (c.fact 89)
  d_law := c.def_ 37
  f_max := He.free_ok X G (c.fact 90)
  g_NetError := He.glo_ok X G (c.fact 91)
  f_ValueError := He.free_ok X G (c.fact 92)
  f_repr := He.free_ok X G (c.fact 93)
  g_law := He.glo_ok X G (c.fact 94)
  kits_0 := Dn.kitsB_ok (c.fact 95)
  xi_BadNumber__value := Dn.xiB_ok (c.fact 96)
  xi_BadText__why := Dn.xiB_ok (c.fact 97)
  xi_BadBytes__length := Dn.xiB_ok (c.fact 98)
  xc_BadKind := Dn.xcB_ok (c.fact 99)
  xi_BadPrefix__length := Dn.xiB_ok (c.fact 100)
  xi_HostBits__told := Dn.xiB_ok (c.fact 101)
  xk_0 := Dn.xkB_ok (c.fact 102)
  no_Address4 := Dn.noB_ok (c.fact 103)
  no_Address6 := Dn.noB_ok (c.fact 104)
  fo_Address4 := Dn.foB_ok (c.fact 105)
  xc_Mixed := Dn.xcB_ok (c.fact 106)
  xc_NotWithin := Dn.xcB_ok (c.fact 107)
  xc_BadRange := Dn.xcB_ok (c.fact 108)
  xc_BadWord := Dn.xcB_ok (c.fact 109)
  xc_NotThere := Dn.xcB_ok (c.fact 110)
  xc_NoMatch := Dn.xcB_ok (c.fact 111)
  nfs_0 := Dn.nfB_ok (c.fact 112)
  xf_value := Dn.xfsB_ok (c.fact 113)
  xf_why := Dn.xfsB_ok (c.fact 114)
  xf_length := Dn.xfsB_ok (c.fact 115)
  xf_told := Dn.xfsB_ok (c.fact 116)
end Dn
open PySem PySem.W PySem.Calls PyProof.Rows
theorem PySem.Challenge.cw_addressnets_k22_errors_by_themselves_holds : PySem.Challenge.rw_addressnets_k22_errors_by_themselves.Holds := by
  w_on; o_law
  refine HandSHeadRun.head_any (r := OpenLaw.row PySem.Challenge.rw_addressnets_k22_errors_by_themselves) (q := view (OpenLaw.row PySem.Challenge.rw_addressnets_k22_errors_by_themselves).prog [52]) (H := Dn.hk) (ob := Dn.ob) (M := 20000) (loose := Dn.loose) (d := HandSHeadRun.topDef (OpenLaw.row PySem.Challenge.rw_addressnets_k22_errors_by_themselves).prog 52) (kwd := []) Dn.ob_eq
    (by kernel_rfl) (fun s => by kernel_rfl) Dn.run (by kernel_rfl) (by kernel_rfl) (by kernel_rfl) (by rfl) (by first | assumption | decide +kernel) (by decide +kernel) ⟨rfl, rfl, rfl, rfl, rfl, by decide +kernel⟩ ?hw ?hc
  case hw => w_witness2
  case hc =>
    refine L2.walk_ofE (l := PySem.Challenge.rw_addressnets_k22_errors_by_themselves) (n := 63) (k := 11) (x := "_law_script") (CX := L2.CX0) rfl (by decide) (by kernel_rfl) ⟨rfl, by decide, by decide⟩ ?F (fun _ _ _ _ z => z)
    intro w mg fa h Y G hmg0
    obtain ⟨K, KX, c⟩ := Y
    have T := Dn.tx_of KX G c
    have hmg : mg ("law" : PySem.Str) = some (.ref fa) := by
      have e : (HandSHeadRun.topDef (OpenLaw.row PySem.Challenge.rw_addressnets_k22_errors_by_themselves).prog 52).name = ("law" : PySem.Str) := by kernel_rfl
      rw [← e]
      exact hmg0
    have e := hmg.symm.trans T.g_law
    cases e
    obtain ⟨fd, hb, hF⟩ := Dn.ok_law (P := (PySem.Challenge.rw_addressnets_k22_errors_by_themselves).prog) (w := w) Dn.law_pure T
    exact ⟨K, fd, Dn.spLaw K, KX, hb, fun H a ns hl _ hS => ⟨a, ns, rfl, hS, hl, fun _ => rfl⟩, fun base _ _ => hF base⟩
#print axioms PySem.Challenge.cw_addressnets_k22_errors_by_themselves_holds
