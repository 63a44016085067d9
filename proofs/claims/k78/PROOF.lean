import PyProof.Rows.All
import Wide.All
import OpenK.AllK
import Wide.FinOn
import PyProof.EqAt
import PyProof.EqKinds
import PyProof.TupleCall
import HandS.ForMost
import HandS.IsInst
import HandS.Property
import HandS.Defaults
import HandS.Codes
import HandS.Flow
import HandS.Style
import HandS.DictTup
import HandS.Conv
import HandS.Zip
import HandS.Sort
import HandS.SortRule
import HandS.Wide
import HandS.HeadHook1
import HandS.HeadHook2
import HandS.HeadNt
import HandS.HeadEnd
import HandS.Head2
import PySem.Challenge.RW_wholepaid_k78_whole_least_payments
set_option Elab.async false
set_option linter.all false
set_option maxRecDepth 100000
set_option maxHeartbeats 4000000
/-! # The common ground: the head's facts by names, calls of defs by names, steps through a reading. -/
namespace Wb
open PySem PySem.Spec PyProof.Rows L2
/-! ### the head's facts -/
/-- the getter of the property f of the class C -/
def pgA (C f : Str) (K : PySem.W.Frag) : Addr := match PySem.W.recIn K (He.ma K (He.ga K C) f) "property" with
  | some (.ref g :: _) => g
  | _ => 0
def propB (C f : Str) (K : PySem.W.Frag) : Bool :=
  He.eqO (PySem.W.findIn K (.ref (He.ga K C)) f) (some (some (.ref (He.ma K (He.ga K C) f)))) &&
    (He.eqO (PySem.W.specialIn K (.ref (He.ma K (He.ga K C) f)) "__get__") (some (some (.builtin "property.__get__"))) &&
    (decide (PySem.W.takesIn K (.ref (He.ma K (He.ga K C) f)) = some true) && (match PySem.W.recIn K (He.ma K (He.ga K C) f) "property" with
      | some (.ref _ :: _) => true
      | _ => false)))
theorem propB_ok {C f : Str} {K : PySem.W.Frag} (h : propB C f K = true) : PropOf K (He.ga K C) f (He.ma K (He.ga K C) f) (pgA C f K) := by
  unfold propB at h
  obtain ⟨h1, h⟩ := He.ba h
  obtain ⟨h2, h⟩ := He.ba h
  obtain ⟨h3, h4⟩ := He.ba h
  refine ⟨He.eqO_ok h1, He.eqO_ok h2, of_decide_eq_true h3, ?_⟩
  unfold pgA
  split at h4
  · rename_i g r e
    exact ⟨r, by rw [e]⟩
  · cases h4
/-- isinstance of an own class -/
def insB (C : Str) (K : PySem.W.Frag) : Bool :=
  He.eqO (PySem.W.findIn K (.ref (He.ga K C)) "__class__") (some (some (.builtin "object.__class__"))) &&
    (He.eqO (PySem.W.specialIn K (.builtin "object.__class__") "__get__") (some (some (.builtin "getset_descriptor.__get__"))) &&
    (decide (PySem.W.takesIn K (.builtin "object.__class__") = some true) && (decide (PySem.W.mroIn K (He.ga K C) (.type "object") = some true) &&
    decide (PySem.W.kitOne K (.ref (He.ga K C)) (.ref (He.ga K C)) = some true))))
theorem insB_ok {C : Str} {K : PySem.W.Frag} (c : Cls K (He.ga K C)) (h : insB C K = true) : C8.InsC K (He.ga K C) := by
  unfold insB at h
  obtain ⟨h1, h⟩ := He.ba h
  obtain ⟨h2, h⟩ := He.ba h
  obtain ⟨h3, h⟩ := He.ba h
  obtain ⟨h4, h5⟩ := He.ba h
  exact ⟨c, He.eqO_ok h1, He.eqO_ok h2, of_decide_eq_true h3, of_decide_eq_true h4, of_decide_eq_true h5⟩
/-! ### the Hook -/
def obsM (fa : List He.Fa) (fn : List He5.DefA) (ex : List (PySem.W.Frag → Bool)) (K : PySem.W.Frag) : He.AlD := ((He5.obsA fa fn K).1 && ex.all (fun e => e K), (He5.obsA fa fn K).2)
def SaysM (fa : List He.Fa) (fn : List He5.DefA) (ex : List (PySem.W.Frag → Bool)) (K : PySem.W.Frag) : Prop := obsM fa fn ex K = He5.valA fn
def obsMG (n : Nat) (fa : List He.Fa) (fn : List He5.DefA) (ex : List (PySem.W.Frag → Bool)) (g : Addr → Option Obj) : He.AlD := obsM fa fn ex (He.frG g (He5.asA g n))
def hookM (n : Nat) (fa : List He.Fa) (fn : List He5.DefA) (ex : List (PySem.W.Frag → Bool)) : PySem.W.Hook where
  α := He.AlD
  obs := fun s => obsMG n fa fn ex s.heap.get?
  val := fun _ => He5.valA fn
  says := fun _ h => ∃ K : PySem.W.Frag, K.In h ∧ SaysM fa fn ex K
  of := fun _ _ e => ⟨_, He.frG_in, e⟩
  keeps := fun _ _ _ ⟨K, hK, c⟩ k => ⟨K, PySem.W.Frag.In.keeps hK k, c⟩
theorem obsMG_eq {n : Nat} {fa : List He.Fa} {fn : List He5.DefA} {ex : List (PySem.W.Frag → Bool)} {g : Addr → Option Obj} {s : Shared} (h : ∀ a, g a = s.heap.get? a) : obsMG n fa fn ex g = (hookM n fa fn ex).obs s := by
  have e : g = s.heap.get? := funext h
  rw [e] <;> rfl
section
variable {fa : List He.Fa} {fn : List He5.DefA} {ex : List (PySem.W.Frag → Bool)} {K : PySem.W.Frag}
theorem SaysM.a (c : SaysM fa fn ex K) : He5.SaysA fa fn K := by
  have c0 : obsM fa fn ex K = He5.valA fn := c
  have h1 : ((He5.obsA fa fn K).1 && ex.all (fun e => e K)) = true := congrArg (fun z : He.AlD => z.1) c0
  have h2 : (He5.obsA fa fn K).2 = (He5.valA fn).2 := show (obsM fa fn ex K).2 = (He5.valA fn).2 by rw [c0]
  have h3 : (He5.obsA fa fn K).1 = true := (He.ba h1).1
  show He5.obsA fa fn K = He5.valA fn
  exact Prod.ext h3 h2
theorem SaysM.fact (c : SaysM fa fn ex K) (i : Nat) {f : He.Fa} (h : fa[i]? = some f := by rfl) : f.ok K = true := c.a.fact i h
theorem SaysM.def_ (c : SaysM fa fn ex K) (i : Nat) {d : He5.DefA} (h : fn[i]? = some d := by rfl) : ∃ fd, FunD K d.name d.qual d.params d.body d.scope (d.dvs K) (d.kws K) (d.at_ K) fd := c.a.def_ i h
theorem SaysM.xb (c : SaysM fa fn ex K) (i : Nat) {e : PySem.W.Frag → Bool} (h : ex[i]? = some e := by rfl) : e K = true := by
  have c0 : obsM fa fn ex K = He5.valA fn := c
  have h1 : ((He5.obsA fa fn K).1 && ex.all (fun e => e K)) = true := congrArg (fun z : He.AlD => z.1) c0
  exact List.all_eq_true.mp (He.ba h1).2 e (List.mem_of_getElem? h)
end
/-- what every def of the text leans on -/
structure Tx (fa : List He.Fa) (fn : List He5.DefA) (ex : List (PySem.W.Frag → Bool)) (K : PySem.W.Frag) (mg : Str → Option Value) (base : Heap) : Prop where
  says : SaysM fa fn ex K
  kin : K.In base
  ns : base.Ns mainGlobals mg

/-! ### calls by names -/
def FdAt (K : PySem.W.Frag) (f : Addr) (fd : FuncData) : Prop := ∃ oc od osl, K.lookup f = some ⟨oc, od, .func fd, osl⟩
theorem FdAt.one {K : PySem.W.Frag} {f : Addr} {fd fd' : FuncData} (a : FdAt K f fd) (b : FdAt K f fd') : fd = fd' := by
  obtain ⟨_, _, _, e⟩ := a
  obtain ⟨_, _, _, e'⟩ := b
  rw [e] at e'
  injection e' with e'
  injection e' with _ _ e'
  injection e' with e'
theorem fdAt_of {K : PySem.W.Frag} {x qual : Str} {params : Arguments} {body : List Stmt} {scope : Scope} {dvs : List V} {kws : List (Str × V)} {f : Addr} {fd : FuncData} (F : FunD K x qual params body scope dvs kws f fd) : FdAt K f fd := by
  obtain ⟨oc, od, dV, kV, doc, pm, an, cdv, ct, osl, _, lk, _⟩ := F.ex
  exact ⟨oc, od, osl, lk⟩
structure Cal (P : Program) (w : World) (K : PySem.W.Frag) (mg : Str → Option Value) (base : Heap) (k : Nat) (x : Str) (ps : List Str) (dvs : List V) (sp : Sp) : Prop where
  ok : ∃ fd ds, FdAt K (He.ga K x) fd ∧ FnOk P w K mg base CX0 k (He.ga K x) fd ps sp ∧ L2.Binds K fd ps ds ∧ Vals dvs ds
  kp : PySem.W.keepIn K (.ref (He.ga K x)) = true
  mgx : mg x = some (.ref (He.ga K x))
/-- a method (or __init__) at an address -/
structure CalA (P : Program) (w : World) (K : PySem.W.Frag) (mg : Str → Option Value) (base : Heap) (k : Nat) (f : Addr) (ps : List Str) (dvs : List V) (sp : Sp) : Prop where
  ok : ∃ fd ds, FdAt K f fd ∧ FnOk P w K mg base CX0 k f fd ps sp ∧ L2.Binds K fd ps ds ∧ Vals dvs ds
section
variable {X : Cx} {k j : Nat} {x m : Str} {C f p : Addr} {ps : List Str} {dvs : List V} {sp : Sp} {e o : Expr} {es : List Expr} {pos apos cpos ppos : Pos} {t : TA} {ta : TE}
theorem pe_cal (c : Cal X.prog X.w X.K X.mg X.base k x ps dvs sp) (hr : Room k X.A) (ha : PA X (e :: es) t) (hg : Gl X x := by rfl) (hdb : (x == ("__debug__" : Str)) = false := by decide)
    (he : starEach (e :: es) X.env = (false, eval e X.env) :: starEach es X.env := by rfl) (hpl : (backTo pos (starEach es X.env)).any (·.1) = false := by rfl) : PE X (.Call (.Name x ppos) (e :: es) [] pos) (tCall sp dvs E0 t) := by
  obtain ⟨fd, ds, _, F, hb, hd⟩ := c.ok
  exact pe_call F hr hg c.mgx c.kp hb hd pass0 ha hdb he hpl
theorem pe_mcal {pl : Sem Bool} (c : CalA X.prog X.w X.K X.mg X.base k f ps dvs sp) (cl : Cls X.K C) (hm : Meth X.K C m f) (hr : Room k X.A) (he : PE X o ta) (ha : PA X (e :: es) t)
    (hst : starEach (e :: es) X.env = (false, eval e X.env) :: starEach es X.env := by rfl) (hpl : (backTo pos (starEach es X.env)).any (·.1) = false := by rfl)
    (ht : eval (.Call (.Attribute o m apos) (e :: es) [] pos) X.env = (do
      let ov ← eval o X.env
      standAt apos.atName
      let (f, first) ← holding [ov] (getMethod ov m pl)
      callWith pos f first (backTo pos (starEach (e :: es) X.env)) (backToKw pos (keywordEach [] X.env))) := by rfl) :
    PE X (.Call (.Attribute o m apos) (e :: es) [] pos) (tMeth C m sp dvs E0 ta t) := by
  obtain ⟨fd, ds, _, F, hb, hd⟩ := c.ok
  exact pe_meth he cl hm F hr hb hd pass0 ha hst hpl ht
theorem pe_mcal0 {pl : Sem Bool} (c : CalA X.prog X.w X.K X.mg X.base k f ps dvs sp) (cl : Cls X.K C) (hm : Meth X.K C m f) (hr : Room k X.A) (he : PE X o ta)
    (ht : eval (.Call (.Attribute o m apos) [] [] pos) X.env = (do
      let ov ← eval o X.env
      standAt apos.atName
      let (f, first) ← holding [ov] (getMethod ov m pl)
      callWith pos f first (backTo pos (starEach [] X.env)) (backToKw pos (keywordEach [] X.env))) := by rfl) :
    PE X (.Call (.Attribute o m apos) [] [] pos) (tMeth C m sp dvs E0 ta tNil) := by
  obtain ⟨fd, ds, _, F, hb, hd⟩ := c.ok
  exact pe_meth0 he cl hm F hr hb hd pass0 ht
theorem pe_pcal (c : CalA X.prog X.w X.K X.mg X.base k f ps dvs sp) (cl : Cls X.K C) (hp : PropOf X.K C m p f) (hr : Room (k + 1) X.A) (he : PE X o ta)
    (hab : attributeBase o m X.env (eval o X.env) = eval o X.env := by rfl) : PE X (.Attribute o m pos) (tProp C sp dvs E0 ta) := by
  obtain ⟨fd, ds, _, F, hb, hd⟩ := c.ok
  exact pe_prop he cl hp F hr hb hd pass0 hab
theorem pe_ncal (c : CalA X.prog X.w X.K X.mg X.base k f ps dvs sp) (M : Mk X.K C f) (hm : X.mg x = some (.ref C)) (hr : Room (k + 1) X.A) (ha : PA X (e :: es) t) (hg : Gl X x := by rfl) (hdb : (x == ("__debug__" : Str)) = false := by decide)
    (he : starEach (e :: es) X.env = (false, eval e X.env) :: starEach es X.env := by rfl) (hpl : (backTo pos (starEach es X.env)).any (·.1) = false := by rfl) : PE X (.Call (.Name x ppos) (e :: es) [] pos) (tMake C sp dvs E0 t) := by
  obtain ⟨fd, ds, _, F, hb, hd⟩ := c.ok
  exact pe_make M F hr hg hm hb hd pass0 ha hdb he hpl
/-- a module's constant -/
theorem pe_gI {i : Int} (hm : ∃ t, X.mg x = some (.int i t)) (hg : Gl X x := by rfl) (hd : (x == ("__debug__" : Str)) = false := by decide) : PE X (.Name x pos) (tC (.int i)) := by
  obtain ⟨t, hm⟩ := hm
  exact pe_glob hg hm ⟨t, rfl⟩ hd
theorem pe_gS {z : Str} (hm : ∃ t, X.mg x = some (.str z t)) (hg : Gl X x := by rfl) (hd : (x == ("__debug__" : Str)) = false := by decide) : PE X (.Name x pos) (tC (.str z)) := by
  obtain ⟨t, hm⟩ := hm
  exact pe_glob hg hm ⟨t, rfl⟩ hd
theorem pe_gC {a : Addr} (hm : X.mg x = some (.ref a)) (hg : Gl X x := by rfl) (hd : (x == ("__debug__" : Str)) = false := by decide) : PE X (.Name x pos) (tC (.ref a)) := pe_glob hg hm rfl hd
end
section
variable {P : Program} {w : World} {K : PySem.W.Frag} {mg : Str → Option Value} {base : Heap} {x qual : Str} {params : Arguments} {body : List Stmt} {scope : Scope} {f : Addr} {ps N : List Str} {sp : Sp} {k : Nat}
/-- a def without defaults keeps its promise: what its body asks -/
theorem cal_mk {dvs : List V} {kws : List (Str × V)} (d : ∃ fd, FunD K x qual params body scope dvs kws f fd) (dv0 : dvs = []) (S : FnScope N ps scope)
    (hb : ∀ (kV doc pm : Value) (an : Option Addr) (cdv ct : Value) (us : List Value), us.length = ps.length → bindArgs (PySem.W.fnOf x qual params body scope .none kV doc pm an cdv ct) ⟨us, []⟩ = pure (ps.zip us))
    (len : ∀ vs H Q E, sp vs H Q E → vs.length = ps.length)
    (hbody : ∀ (cdv : Value) (A : Around) (outer : List Env) (s : Shared) (H : Hp) (vs : List V) (Q : VK) (E : XK), Room k (A.deeper (envOfC qual scope s.heap.objs.size f cdv)) → sp vs H Q E →
      ∃ t, PSs (cxOf CX0 P w K mg base N qual scope f cdv A outer s H E).nox body t ∧ t { nx := fun _ H' => Q .non H', rt := Q } (L2.start N vs) H) : CalA P w K mg base (k + 1) f ps [] sp := by
  subst dv0
  obtain ⟨fd, F⟩ := d
  exact ⟨fd, [], fdAt_of F, F.ok S len fun cdv A outer s H vs Q E hr h => by
    obtain ⟨t, h1, h2⟩ := hbody cdv A outer s H vs Q E hr h
    exact ⟨t, h1.nox, h2⟩, F.bindsN hb, .nil⟩
/-- .. one with defaults, all arguments written -/
theorem cal_mkD {dvs : List V} {kws : List (Str × V)} (d : ∃ fd, FunD K x qual params body scope dvs kws f fd) (dv0 : dvs ≠ []) (S : FnScope N ps scope)
    (hb : ∀ (T : Addr) (kV doc pm : Value) (an : Option Addr) (cdv ct : Value) (us its : List Value), us.length = ps.length → its.length = dvs.length →
      ∃ k, bindArgs (PySem.W.fnOf x qual params body scope (.ref T) kV doc pm an cdv ct) ⟨us, []⟩ = seqItems? (.ref T) >>= k ∧ k (some its.toArray) = pure (ps.zip us))
    (len : ∀ vs H Q E, sp vs H Q E → vs.length = ps.length)
    (hbody : ∀ (cdv : Value) (A : Around) (outer : List Env) (s : Shared) (H : Hp) (vs : List V) (Q : VK) (E : XK), Room k (A.deeper (envOfC qual scope s.heap.objs.size f cdv)) → sp vs H Q E →
      ∃ t, PSs (cxOf CX0 P w K mg base N qual scope f cdv A outer s H E).nox body t ∧ t { nx := fun _ H' => Q .non H', rt := Q } (L2.start N vs) H) : CalA P w K mg base (k + 1) f ps [] sp := by
  obtain ⟨fd, F⟩ := d
  obtain ⟨ds, hv, hb'⟩ := F.binds1 (ps := ps) ps.length dvs.length dv0 (by omega) fun T kV doc pm an cdv ct us its h1 h2 => by
    obtain ⟨k, e1, e2⟩ := hb T kV doc pm an cdv ct us its h1 h2
    refine ⟨k, e1, ?_⟩
    rw [List.drop_of_length_le (by omega), List.append_nil]
    exact e2
  rw [List.drop_of_length_le (Nat.le_refl _)] at hv
  exact ⟨fd, ds, fdAt_of F, F.ok S len fun cdv A outer s H vs Q E hr h => by
    obtain ⟨t, h1, h2⟩ := hbody cdv A outer s H vs Q E hr h
    exact ⟨t, h1.nox, h2⟩, hb', hv⟩
theorem CalA.cal {x : Str} {dvs : List V} (c : CalA P w K mg base k (He.ga K x) ps dvs sp) {qual : Str} {dd : List V} {kws : List (Str × V)} (d : ∃ fd, FunD K x qual params body scope dd kws (He.ga K x) fd) (g : mg x = some (.ref (He.ga K x))) : Cal P w K mg base k x ps dvs sp := by
  obtain ⟨fd, F⟩ := d
  exact ⟨c.ok, F.kp, g⟩
end
/-! ### what is kept -/
theorem _root_.L2.Same.get {H H' : Hp} {a : Addr} {o : HO} (s : Same H H') (h : H a = some o) : H' a = some o := s a o h
/-- all but what S names is kept -/
def Kp (S : Addr → Prop) (H H' : Hp) : Prop := ∀ b o, H b = some o → ¬ S b → H' b = some o
theorem Kp.get {S : Addr → Prop} {H H' : Hp} {a : Addr} {o : HO} (s : Kp S H H') (h : H a = some o) (n : ¬ S a) : H' a = some o := s a o h n
theorem Kp.trans {S : Addr → Prop} {H H1 H2 : Hp} (a : Kp S H H1) (b : Kp S H1 H2) : Kp S H H2 := fun c o h n => b c o (a c o h n) n
theorem _root_.L2.Same.kp {S : Addr → Prop} {H H' : Hp} (s : Same H H') : Kp S H H' := fun b o h _ => s b o h
/-! ### steps through a reading -/
section
variable {K : PySem.W.Frag} {σ : L2.St} {H H1 : Hp} {Q : VK} {D : Ends} {i : Nat} {v x y : V} {ta tb te tc : TE} {r r' : R2} {t u : TT} {t1 t2 t3 : TS} {g : TG} {tl : TA}
theorem g_var (h : σ[i]? = some (some v)) (k : Q v H) : tVar i σ H Q := ⟨v, h, k⟩
theorem g_c (k : Q v H) : tC v σ H Q := k
theorem g_op (k : ta σ H fun x H1 => tb σ H1 fun y H2 => r x y H2 Q) : tOp r ta tb σ H Q := k
theorem g_un {r : V → Hp → VK → Prop} (k : ta σ H fun x H1 => r x H1 Q) : tUn r ta σ H Q := k
theorem g_rI0 {g : Int → Int → V} {a b : Int} (k : Q (g a b) H) : rI0 g (.int a) (.int b) H Q := ⟨a, b, rfl, rfl, k⟩
theorem g_pl {p : Prop} (h : p) : p := h
theorem g_rI {c : Int → Int → Prop} {g : Int → Int → V} {a b : Int} (h : c a b) (k : Q (g a b) H) : rI c g (.int a) (.int b) H Q := ⟨a, b, rfl, rfl, h, k⟩
theorem g_rU {g : Int → V} {a : Int} (k : Q (g a) H) : rU g (.int a) H Q := ⟨a, rfl, k⟩
theorem g_eqI {a b : Int} (k : Q (.bl (decide (a = b))) H) : rEq (.int a) (.int b) H Q := ⟨rfl, by
  have e : decide (V.int a = V.int b) = decide (a = b) := by
    by_cases h : a = b
    · subst h; simp
    · rw [decide_eq_false h, decide_eq_false (fun z => h (V.int.inj z))]
  rw [e]; exact k⟩
theorem g_neI {a b : Int} (k : Q (.bl (!decide (a = b))) H) : rNe (.int a) (.int b) H Q := ⟨rfl, by
  have e : decide (V.int a = V.int b) = decide (a = b) := by
    by_cases h : a = b
    · subst h; simp
    · rw [decide_eq_false h, decide_eq_false (fun z => h (V.int.inj z))]
  rw [e]; exact k⟩
theorem g_eqS {a b : Str} (k : Q (.bl (decide (a = b))) H) : rEq (.str a) (.str b) H Q := ⟨rfl, by
  have e : decide (V.str a = V.str b) = decide (a = b) := by
    by_cases h : a = b
    · subst h; simp
    · rw [decide_eq_false h, decide_eq_false (fun z => h (V.str.inj z))]
  rw [e]; exact k⟩
theorem g_neS {a b : Str} (k : Q (.bl (!decide (a = b))) H) : rNe (.str a) (.str b) H Q := ⟨rfl, by
  have e : decide (V.str a = V.str b) = decide (a = b) := by
    by_cases h : a = b
    · subst h; simp
    · rw [decide_eq_false h, decide_eq_false (fun z => h (V.str.inj z))]
  rw [e]; exact k⟩
theorem dec_bl {a b : Bool} : decide (V.bl a = V.bl b) = (a == b) := by cases a <;> cases b <;> rfl
theorem g_eqB {a b : Bool} (k : Q (.bl (a == b)) H) : rEq (.bl a) (.bl b) H Q := ⟨rfl, by rw [dec_bl]; exact k⟩
theorem g_neB {a b : Bool} (k : Q (.bl (!(a == b))) H) : rNe (.bl a) (.bl b) H Q := ⟨rfl, by rw [dec_bl]; exact k⟩
def rIsN' : R2 := fun x y H Q => y = V.non ∧ Q (.bl (decide (x = V.non))) H
def rNotN' : R2 := fun x y H Q => y = V.non ∧ Q (.bl (!decide (x = V.non))) H
theorem op_isN' {X : Cx} : OpR X (compareOp .Is) rIsN' := op_isN
theorem op_notN' {X : Cx} : OpR X (compareOp .IsNot) rNotN' := op_notN
theorem g_isN {b : Bool} (h : decide (x = V.non) = b) (k : Q (.bl b) H) : rIsN' x .non H Q := ⟨rfl, by rw [h]; exact k⟩
theorem g_notN {b : Bool} (h : decide (x = V.non) = b) (k : Q (.bl (!b)) H) : rNotN' x .non H Q := ⟨rfl, by rw [h]; exact k⟩
/-! tests -/
theorem g_test {Q : Bool → Hp → Prop} (k : te σ H fun x H1 => ∃ c, x = V.bl c ∧ Q c H1) : tTest te σ H Q := k
theorem g_tB {Q : Bool → Hp → Prop} (k : te σ H fun x H1 => ∃ c, x = V.bl c ∧ Q c H1) : tB te σ H Q := k
theorem g_exB {p : Bool → Prop} {b : Bool} (k : p b) : ∃ c, V.bl b = V.bl c ∧ p c := ⟨b, rfl, k⟩
theorem g_exI {p : Int → Prop} {b : Int} (k : p b) : ∃ c, V.int b = V.int c ∧ p c := ⟨b, rfl, k⟩
theorem g_and {Q : Bool → Hp → Prop} (k : t σ H fun c H1 => if c = true then u σ H1 Q else Q false H1) : tAnd t u σ H Q := k
theorem g_or {Q : Bool → Hp → Prop} (k : t σ H fun c H1 => if c = true then Q true H1 else u σ H1 Q) : tOr t u σ H Q := k
theorem g_not {Q : Bool → Hp → Prop} (k : t σ H fun c H1 => Q (!c) H1) : tNot t σ H Q := k
theorem g_andV (k : ta σ H fun x H1 => ∃ c, x = V.bl c ∧ if c = true then tb σ H1 Q else Q (.bl false) H1) : tAndV ta tb σ H Q := k
theorem g_orV (k : ta σ H fun x H1 => ∃ c, x = V.bl c ∧ if c = true then Q (.bl true) H1 else tb σ H1 Q) : tOrV ta tb σ H Q := k
theorem g_notV (k : ta σ H fun x H1 => ∃ c, x = V.bl c ∧ Q (.bl (!c)) H1) : tNotV ta σ H Q := k
theorem g_if (k : t σ H fun c H1 => if c = true then ta σ H1 Q else tb σ H1 Q) : tIf t ta tb σ H Q := k
theorem g_chain (k : ta σ H fun x H1 => tb σ H1 fun y H2 => r x y H2 fun z H3 => ∃ k, z = .bl k ∧ (if k = true then tc σ H3 fun w' H4 => r' y w' H4 Q else Q (.bl false) H3)) : tChain r r' ta tb tc σ H Q := k
theorem g_itT {b : Bool} {A B : Prop} (h : b = true) (k : A) : if b = true then A else B := by rw [if_pos h]; exact k
theorem g_itF {b : Bool} {A B : Prop} (h : b = false) (k : B) : if b = true then A else B := by rw [h]; exact iteF k
theorem g_it2 {b : Bool} {A B : Prop} (h1 : b = true → A) (h2 : b = false → B) : if b = true then A else B := by
  cases b with
  | true => exact iteT (h1 rfl)
  | false => exact iteF (h2 rfl)
theorem g_itD {p : Prop} [Decidable p] {A B : Prop} (h1 : p → A) (h2 : ¬ p → B) : if decide p = true then A else B := by
  by_cases h : p
  · rw [if_pos (decide_eq_true h)]; exact h1 h
  · rw [if_neg (by simp [h])]; exact h2 h
theorem g_itN {p : Prop} [Decidable p] {A B : Prop} (h1 : ¬ p → A) (h2 : p → B) : if (!decide p) = true then A else B := by
  by_cases h : p
  · rw [if_neg (by simp [h])]; exact h2 h
  · rw [if_pos (by simp [h])]; exact h1 h
/-! statements -/
theorem g_seq (k : t1 { D with nx := t2 D } σ H) : tSeq t1 t2 D σ H := k
theorem g_sAsg (k : te σ H fun x H1 => g x σ H1 (t2 D)) : tSeq (tAsg te g) t2 D σ H := k
theorem g_asg (k : te σ H fun x H1 => g x σ H1 D.nx) : tAsg te g D σ H := k
theorem g_name {Q : L2.St → Hp → Prop} (k : Q (σ.set i (some v)) H) : gName i v σ H Q := k
theorem g_ret (k : te σ H D.rt) : tRet te D σ H := k
theorem g_retS (k : te σ H D.rt) : tSeq (tRet te) t2 D σ H := k
theorem g_sIf (k : t σ H fun b H1 => if b = true then t1 { D with nx := t3 D } σ H1 else t2 { D with nx := t3 D } σ H1) : tSeq (tIfS t t1 t2) t3 D σ H := k
theorem g_ifS (k : t σ H fun b H1 => if b = true then t1 D σ H1 else t2 D σ H1) : tIfS t t1 t2 D σ H := k
theorem g_nx {a c d : L2.St → Hp → Prop} {b : VK} (k : a σ H) : Ends.nx ⟨a, b, c, d⟩ σ H := k
theorem g_ct {a c d : L2.St → Hp → Prop} {b : VK} (k : d σ H) : Ends.ct ⟨a, b, c, d⟩ σ H := k
theorem g_rt {a c d : L2.St → Hp → Prop} {b : VK} (k : b v H) : Ends.rt ⟨a, b, c, d⟩ v H := k
theorem g_next (k : D.nx σ H) : tNext D σ H := k
theorem g_sDrop (k : te σ H fun _ H1 => t2 D σ H1) : tSeq (tDrop te) t2 D σ H := k
theorem g_drop (k : te σ H fun _ H1 => D.nx σ H1) : tDrop te D σ H := k
theorem g_aug {ti : TIp} (h : σ[i]? = some (some x)) (k : te σ H fun y H1 => ti x y H1 fun z H2 => D.nx (σ.set i (some z)) H2) : tAug i te ti D σ H := ⟨x, h, k⟩
theorem g_sAug {ti : TIp} (h : σ[i]? = some (some x)) (k : te σ H fun y H1 => ti x y H1 fun z H2 => t2 D (σ.set i (some z)) H2) : tSeq (tAug i te ti) t2 D σ H := ⟨x, h, k⟩
theorem g_par {j : Nat} (k : tl σ H fun vs H1 => ∃ v w, vs = [v, w] ∧ D.nx ((σ.set i (some v)).set j (some w)) H1) : tPar i j tl D σ H := k
theorem g_sPar {j : Nat} (k : tl σ H fun vs H1 => ∃ v w, vs = [v, w] ∧ t2 D ((σ.set i (some v)).set j (some w)) H1) : tSeq (tPar i j tl) t2 D σ H := k
theorem g_ex2 {p : V → V → Prop} (k : p v x) : ∃ a b, [v, x] = [a, b] ∧ p a b := ⟨v, x, rfl, k⟩
/-! arguments, calls -/
theorem g_nil {Q : List V → Hp → Prop} (k : Q [] H) : tNil σ H Q := k
theorem g_cons {Q : List V → Hp → Prop} (k : ta σ H fun x H1 => tl σ H1 fun xs H2 => Q (x :: xs) H2) : tCons ta tl σ H Q := k
theorem g_call {sp : Sp} {dvs : List V} {E : XK} (k : tl σ H fun vs H1 => sp (vs ++ dvs) H1 Q E) : tCall sp dvs E tl σ H Q := k
theorem g_meth {sp : Sp} {dvs : List V} {E : XK} {C : Addr} {m : Str} (k : ta σ H fun x H1 => ∃ a dx fs, x = .ref a ∧ H1 a = some (.ins C dx fs) ∧ fs.lookup m = none ∧ tl σ H1 fun vs H2 => sp (x :: (vs ++ dvs)) H2 Q E) : tMeth C m sp dvs E ta tl σ H Q := k
theorem g_exM {sp : Sp} {a C dx : Addr} {fs : List (Str × V)} {m : Str} {p : Prop} (h : H a = some (.ins C dx fs)) (l : fs.lookup m = none) (k : p) : ∃ a' dx' fs', V.ref a = .ref a' ∧ H a' = some (.ins C dx' fs') ∧ fs'.lookup m = none ∧ p := ⟨a, dx, fs, rfl, h, l, k⟩
theorem g_prop {sp : Sp} {dvs : List V} {E : XK} {C : Addr} (k : ta σ H fun x H1 => ∃ a dx fs, x = .ref a ∧ H1 a = some (.ins C dx fs) ∧ sp (.ref a :: dvs) H1 Q E) : tProp C sp dvs E ta σ H Q := k
theorem g_exP {a C dx : Addr} {fs : List (Str × V)} {p : Addr → Prop} (h : H a = some (.ins C dx fs)) (k : p a) : ∃ a' dx' fs', V.ref a = .ref a' ∧ H a' = some (.ins C dx' fs') ∧ p a' := ⟨a, dx, fs, rfl, h, k⟩
theorem g_CB {rr : List V → Hp → VK → Prop} (k : tl σ H fun vs H1 => rr vs H1 Q) : tCB rr tl σ H Q := k
theorem g_fld {f : Str} (k : ta σ H fun x H1 => ∃ a C dx fs v, x = .ref a ∧ H1 a = some (.ins C dx fs) ∧ Cls K C ∧ NoAttr K C f ∧ fs.lookup f = some v ∧ Q v H1) : tFld K ta f σ H Q := k
theorem g_exF {f : Str} {a C dx : Addr} {fs : List (Str × V)} {p : V → Prop} (h : H a = some (.ins C dx fs)) (c : Cls K C) (n : NoAttr K C f) (l : fs.lookup f = some v) (k : p v) :
    ∃ a' C' dx' fs' v', V.ref a = .ref a' ∧ H a' = some (.ins C' dx' fs') ∧ Cls K C' ∧ NoAttr K C' f ∧ fs'.lookup f = some v' ∧ p v' := ⟨a, C, dx, fs, v, rfl, h, c, n, l, k⟩
/-! new objects: from here on the heap is a letter -/
theorem Same.new {p : Addr} {o : HO} (h : H p = none) : Same H (upd H p o) := fun b u e => by
  rw [upd_ne (ne_of_none e h)]; exact e
def NewT (Q : VK) : List V → Hp → Prop := fun xs H1 => xs.length ≤ sizeLine ∧ ∀ p, H1 p = none → Q (.ref p) (upd H1 p (.tup xs))
def NewL (Q : VK) : List V → Hp → Prop := fun xs H1 => xs.length ≤ sizeLine ∧ ∀ p, H1 p = none → Q (.ref p) (upd H1 p (.lst xs))
theorem g_tup (k : tl σ H (NewT Q)) : tTup tl σ H Q := k
theorem g_lst (k : tl σ H (NewL Q)) : tLst tl σ H Q := k
theorem newT {xs : List V} (h : xs.length ≤ sizeLine) (k : ∀ p H2, H p = none → Same H H2 → H2 p = some (.tup xs) → Q (.ref p) H2) : NewT Q xs H := ⟨h, fun p hp => k p _ hp (Same.new hp) upd_same⟩
theorem newL {xs : List V} (h : xs.length ≤ sizeLine) (k : ∀ p H2, H p = none → Same H H2 → H2 p = some (.lst xs) → Q (.ref p) H2) : NewL Q xs H := ⟨h, fun p hp => k p _ hp (Same.new hp) upd_same⟩
/-! items -/
theorem g_ixT {p : Addr} {xs : List V} {j : Int} (h : SqT K H p xs) (e : atI xs j = some v) (k : Q v H) : rIxT K (.ref p) (.int j) H Q := ⟨p, xs, j, v, rfl, rfl, h, e, k⟩
theorem g_ixL {p : Addr} {xs : List V} {j : Int} (h : SqL K H p xs) (e : atI xs j = some v) (k : Q v H) : rIxL K (.ref p) (.int j) H Q := ⟨p, xs, j, v, rfl, rfl, h, e, k⟩
theorem g_gTup {n : Nat} {ts : TGs} {p : Addr} {xs : List V} {Q : L2.St → Hp → Prop} (h : SqT K H p xs) (l : xs.length = n) (k : ts xs σ H Q) : gTup K n ts (.ref p) σ H Q := ⟨p, xs, rfl, h, l, k⟩
theorem g_gCons {tg : TG} {ts : TGs} {xs : List V} {Q : L2.St → Hp → Prop} (k : tg v σ H fun σ' H' => ts xs σ' H' Q) : gCons tg ts (v :: xs) σ H Q := ⟨v, xs, rfl, k⟩
theorem g_gNil {Q : L2.St → Hp → Prop} (k : Q σ H) : gNil [] σ H Q := ⟨rfl, k⟩
theorem sqT (h : H i = some (.tup xs)) : SqT K H i xs := .inl (.inl h)
theorem sqL (h : H i = some (.lst xs)) : SqL K H i xs := .inl (.inl h)
/-! isinstance -/
theorem g_isi {x : V} {n : String} {t : Value} {b : Bool} (ty : TyX K H x t) (h : PySem.W.kitOne K t (.type n) = some b) (k : Q (.bl b) H) : rIsi K [x, .ty n] H Q := ⟨x, .ty n, t, .type n, b, rfl, .ty n, ty, h, k⟩
theorem g_isiTy {x : V} {m n : String} {b : Bool} (ty : TyX K H x (.type m)) (h : kitB m n = some b) (k : Q (.bl b) H) : rIsi K [x, .ty n] H Q := g_isi ty (kit_ty h) k
theorem g_isiC {a C dx : Addr} {fs : List (Str × V)} (c : C8.InsC K C) (e : H a = some (.ins C dx fs)) (k : Q (.bl true) H) : rIsi K [.ref a, .ref C] H Q :=
  ⟨.ref a, .ref C, .ref C, .ref C, true, rfl, .own C, .base (.ins e c.cl c.ha c.hn c.htk c.hm), c.me, k⟩
theorem g_is_int_int {n : Int} (k : Q (.bl true) H) : rIsi K [.int n, .ty "int"] H Q := g_isiTy (m := "int") (.base (.int n)) (by decide +kernel) k
theorem g_is_int_bool {n : Int} (k : Q (.bl false) H) : rIsi K [.int n, .ty "bool"] H Q := g_isiTy (m := "int") (.base (.int n)) (by decide +kernel) k
theorem g_is_bl_bool {n : Bool} (k : Q (.bl true) H) : rIsi K [.bl n, .ty "bool"] H Q := g_isiTy (m := "bool") (.base (.bl n)) (by decide +kernel) k
theorem g_is_bl_int {n : Bool} (k : Q (.bl true) H) : rIsi K [.bl n, .ty "int"] H Q := g_isiTy (m := "bool") (.base (.bl n)) (by decide +kernel) k
theorem g_is_str_str {n : Str} (k : Q (.bl true) H) : rIsi K [.str n, .ty "str"] H Q := g_isiTy (m := "str") (.base (.str n)) (by decide +kernel) k
theorem g_is_int_str {n : Int} (k : Q (.bl false) H) : rIsi K [.int n, .ty "str"] H Q := g_isiTy (m := "int") (.base (.int n)) (by decide +kernel) k
theorem g_is_str_int {n : Str} (k : Q (.bl false) H) : rIsi K [.str n, .ty "int"] H Q := g_isiTy (m := "str") (.base (.str n)) (by decide +kernel) k
theorem g_is_str_bool {n : Str} (k : Q (.bl false) H) : rIsi K [.str n, .ty "bool"] H Q := g_isiTy (m := "str") (.base (.str n)) (by decide +kernel) k
theorem g_is_bl_str {n : Bool} (k : Q (.bl false) H) : rIsi K [.bl n, .ty "str"] H Q := g_isiTy (m := "bool") (.base (.bl n)) (by decide +kernel) k
theorem g_is_lst_list {a : Addr} {xs : List V} (h : H a = some (.lst xs)) (k : Q (.bl true) H) : rIsi K [.ref a, .ty "list"] H Q := g_isiTy (m := "list") (.base (.lst h)) (by decide +kernel) k
theorem g_is_lst_tuple {a : Addr} {xs : List V} (h : H a = some (.lst xs)) (k : Q (.bl false) H) : rIsi K [.ref a, .ty "tuple"] H Q := g_isiTy (m := "list") (.base (.lst h)) (by decide +kernel) k
theorem g_is_lst_dict {a : Addr} {xs : List V} (h : H a = some (.lst xs)) (k : Q (.bl false) H) : rIsi K [.ref a, .ty "dict"] H Q := g_isiTy (m := "list") (.base (.lst h)) (by decide +kernel) k
theorem g_is_tup_list {a : Addr} {xs : List V} (h : H a = some (.tup xs)) (k : Q (.bl false) H) : rIsi K [.ref a, .ty "list"] H Q := g_isiTy (m := "tuple") (.base (.tup h)) (by decide +kernel) k
theorem g_is_tup_tuple {a : Addr} {xs : List V} (h : H a = some (.tup xs)) (k : Q (.bl true) H) : rIsi K [.ref a, .ty "tuple"] H Q := g_isiTy (m := "tuple") (.base (.tup h)) (by decide +kernel) k
theorem g_is_tup_dict {a : Addr} {xs : List V} (h : H a = some (.tup xs)) (k : Q (.bl false) H) : rIsi K [.ref a, .ty "dict"] H Q := g_isiTy (m := "tuple") (.base (.tup h)) (by decide +kernel) k
theorem g_is_dK_list {a : Addr} {xs : List (Key × V)} (h : H a = some (.dK xs)) (k : Q (.bl false) H) : rIsi K [.ref a, .ty "list"] H Q := g_isiTy (m := "dict") (.base (.dK h)) (by decide +kernel) k
theorem g_is_dK_tuple {a : Addr} {xs : List (Key × V)} (h : H a = some (.dK xs)) (k : Q (.bl false) H) : rIsi K [.ref a, .ty "tuple"] H Q := g_isiTy (m := "dict") (.base (.dK h)) (by decide +kernel) k
theorem g_is_dK_dict {a : Addr} {xs : List (Key × V)} (h : H a = some (.dK xs)) (k : Q (.bl true) H) : rIsi K [.ref a, .ty "dict"] H Q := g_isiTy (m := "dict") (.base (.dK h)) (by decide +kernel) k
theorem g_is_dT_list {a : Addr} {xs : List (List Key × V)} (h : H a = some (.dT xs)) (k : Q (.bl false) H) : rIsi K [.ref a, .ty "list"] H Q := g_isiTy (m := "dict") (.base (.dT h)) (by decide +kernel) k
theorem g_is_dT_tuple {a : Addr} {xs : List (List Key × V)} (h : H a = some (.dT xs)) (k : Q (.bl false) H) : rIsi K [.ref a, .ty "tuple"] H Q := g_isiTy (m := "dict") (.base (.dT h)) (by decide +kernel) k
theorem g_is_dT_dict {a : Addr} {xs : List (List Key × V)} (h : H a = some (.dT xs)) (k : Q (.bl true) H) : rIsi K [.ref a, .ty "dict"] H Q := g_isiTy (m := "dict") (.base (.dT h)) (by decide +kernel) k
theorem g_start {t : TS} {σ' : L2.St} (e : σ = σ') (k : t D σ' H) : t D σ H := by subst e; exact k
/-- isinstance(x, (list, tuple)) -/
theorem g_isLT {tp : Addr} {x : V} {t : String} (h : H tp = some (.tup [.ty "list", .ty "tuple"])) (ht : TyX K H x (.type t)) (hb : (t == "list" || t == "tuple") = true) (k : Q (.bl true) H) : rIsiT K [x, .ref tp] H Q := by
  refine ⟨x, tp, _, .type t, [.type "list", .type "tuple"], true, rfl, h, .cons (.ty _) (.cons (.ty _) .nil), ht, ?_, k⟩
  rw [Bool.or_eq_true] at hb
  rcases hb with hb | hb
  · obtain rfl := eq_of_beq hb
    exact kitAny_cons (b := true) (kit_ty (by decide +kernel)) (fun z => nomatch z) fun _ => rfl
  · obtain rfl := eq_of_beq hb
    exact kitAny_cons (b := false) (kit_ty (by decide +kernel)) (fun _ => kitAny_cons (b := true) (kit_ty (by decide +kernel)) (fun z => nomatch z) fun _ => rfl) (fun z => nomatch z)
/-! built-in functions by names of their readings -/
def rLenS (K : PySem.W.Frag) : List V → Hp → VK → Prop := fun xs H Q => ∃ p ys, xs = [V.ref p] ∧ (SqL K H p ys ∨ SqT K H p ys) ∧ Q (.int ys.length) H
def rListOf (K : PySem.W.Frag) : List V → Hp → VK → Prop := fun xs H Q => ∃ p ys, xs = [V.ref p] ∧ (SqL K H p ys ∨ SqT K H p ys) ∧ ∀ l, H l = none → Q (.ref l) (upd H l (.lst ys))
def rMaxI : List V → Hp → VK → Prop := fun xs H Q => ∃ i j, xs = [V.int i, .int j] ∧ Q (.int (if j > i then j else i)) H
def rMinI : List V → Hp → VK → Prop := fun xs H Q => ∃ i j, xs = [V.int i, .int j] ∧ Q (.int (if j < i then j else i)) H
def rIntI : List V → Hp → VK → Prop := fun xs H Q => (∃ i, xs = [V.int i] ∧ Q (.int i) H) ∨ ∃ k, xs = [V.bl k] ∧ Q (.int (if k then 1 else 0)) H
def rLenStr : List V → Hp → VK → Prop := fun xs H Q => ∃ z, xs = [V.str z] ∧ z.length ≤ sizeLine ∧ Q (.int z.length) H
section
variable {X : Cx}
theorem call_lenS' : CallR X (.builtin "len") (rLenS X.K) := call_len_seq
theorem call_listOf' : CallR X (.type "list") (rListOf X.K) := call_list_of
theorem call_maxI (hc : X.calm = true) : CallR X (.builtin "max") rMaxI := call_max2 hc
theorem call_minI (hc : X.calm = true) : CallR X (.builtin "min") rMinI := call_min2 hc
theorem call_intI : CallR X (.type "int") rIntI := call_int1
end
theorem g_lenL {a : Addr} {xs : List V} (h : SqL K H a xs) (k : Q (.int xs.length) H) : rLenS K [.ref a] H Q := ⟨a, xs, rfl, .inl h, k⟩
theorem g_lenT {a : Addr} {xs : List V} (h : SqT K H a xs) (k : Q (.int xs.length) H) : rLenS K [.ref a] H Q := ⟨a, xs, rfl, .inr h, k⟩
theorem g_listL {a : Addr} {xs : List V} (h : SqL K H a xs) (k : ∀ p H', H p = none → Same H H' → H' p = some (.lst xs) → Q (.ref p) H') : rListOf K [.ref a] H Q := ⟨a, xs, rfl, .inl h, fun l hl => k l _ hl (Same.new hl) upd_same⟩
theorem g_listT {a : Addr} {xs : List V} (h : SqT K H a xs) (k : ∀ p H', H p = none → Same H H' → H' p = some (.lst xs) → Q (.ref p) H') : rListOf K [.ref a] H Q := ⟨a, xs, rfl, .inr h, fun l hl => k l _ hl (Same.new hl) upd_same⟩
theorem g_max {a b : Int} (k : Q (.int (max a b)) H) : rMaxI [.int a, .int b] H Q := ⟨a, b, rfl, by
  have e : (if b > a then b else a) = max a b := by by_cases h : b > a <;> simp [h] <;> omega
  rw [e]; exact k⟩
theorem g_min {a b : Int} (k : Q (.int (min a b)) H) : rMinI [.int a, .int b] H Q := ⟨a, b, rfl, by
  have e : (if b < a then b else a) = min a b := by by_cases h : b < a <;> simp [h] <;> omega
  rw [e]; exact k⟩
theorem g_intI {a : Int} (k : Q (.int a) H) : rIntI [.int a] H Q := .inl ⟨a, rfl, k⟩
theorem g_intB {a : Bool} (k : Q (.int (if a then 1 else 0)) H) : rIntI [.bl a] H Q := .inr ⟨a, rfl, k⟩
end
end Wb
/-! # Further steps: loops, comprehensions, stores, lists, dicts, data. -/
namespace L2
open PySem PySem.Spec PyProof.Rows L2
/-! ### data, kept -/
theorem Same.rd {H H' : Hp} {a : Addr} {u : HO} (s : Same H H') (h : Rd H a u) : Rd H' a u := by
  rcases h with h | ⟨o, h⟩
  · exact .inl (s _ _ h)
  · exact .inr ⟨o, s _ _ h⟩
theorem Same.tup {K : PySem.W.Frag} {H H' : Hp} {a : Addr} {xs : List V} (e : Same H H') (h : SqT K H a xs) : SqT K H' a xs := by
  rcases h with h | h
  · exact .inl (e.rd h)
  · exact .inr h
mutual
theorem Dp.same {K : PySem.W.Frag} {H H' : Hp} (s : Same H H') : ∀ {v : V} {d : PyData}, Dp K H v d → Dp K H' v d
  | _, _, .non => .non
  | _, _, .bl b => .bl b
  | _, _, .int i => .int i
  | _, _, .str x => .str x
  | _, _, .lst h r => .lst (s.seq h) (DpAll.same s r)
  | _, _, .tup h r => .tup (s.tup h) (DpAll.same s r)
theorem DpAll.same {K : PySem.W.Frag} {H H' : Hp} (s : Same H H') : ∀ {v : List V} {d : List PyData}, DpAll K H v d → DpAll K H' v d
  | _, _, .nil => .nil
  | _, _, .cons h r => .cons (Dp.same s h) (DpAll.same s r)
end
theorem DpAll.len {K : PySem.W.Frag} {H : Hp} : ∀ {vs : List V} {ds : List PyData}, DpAll K H vs ds → vs.length = ds.length
  | _, _, .nil => rfl
  | _, _, .cons _ r => by simp [DpAll.len r]
theorem DpAll.get {K : PySem.W.Frag} {H : Hp} : ∀ {vs : List V} {ds : List PyData} {i : Nat} {v : V}, DpAll K H vs ds → vs[i]? = some v → ∃ d, ds[i]? = some d ∧ Dp K H v d
  | _, _, i, v, .nil, h => by simp at h
  | _, _, 0, v, .cons a r, h => by simp at h; subst h; exact ⟨_, rfl, a⟩
  | _, _, i + 1, v, .cons a r, h => by simpa using DpAll.get r (by simpa using h)
theorem DpAll.app {K : PySem.W.Frag} {H : Hp} : ∀ {vs ws : List V} {ds es : List PyData}, DpAll K H vs ds → DpAll K H ws es → DpAll K H (vs ++ ws) (ds ++ es)
  | _, _, _, _, .nil, h => h
  | _, _, _, _, .cons a r, h => .cons a (DpAll.app r h)
theorem DpAll.ints {K : PySem.W.Frag} {H : Hp} : ∀ ns : List Int, DpAll K H (ns.map V.int) (ns.map PyData.int)
  | [] => .nil
  | n :: r => .cons (.int n) (DpAll.ints r)
theorem Dp.ints {K : PySem.W.Frag} {H : Hp} {a : Addr} {ns : List Int} (h : SqL K H a (ns.map V.int)) : Dp K H (.ref a) (.list (ns.map .int)) := .lst h (DpAll.ints ns)
theorem Same.mut {H H' : Hp} {p : Addr} {o : HO} (e : Same H H') (h : H p = none) : Same H (upd H' p o) := fun a u ha => by
  rw [upd_ne (ne_of_none ha h)]
  exact e a u ha
end L2
namespace Wb
open PySem PySem.Spec PyProof.Rows L2
/-- the heap without what stands at D -/
def del (H : Hp) (D : Addr) : Hp := fun b => if b = D then none else H b
theorem del_same {H : Hp} {D : Addr} {o : HO} : Same (del H D) (upd H D o) := fun b u e => by
  unfold del at e
  by_cases h : b = D
  · rw [if_pos h] at e; cases e
  · rw [if_neg h] at e; rw [upd_ne h]; exact e
theorem del_le {H : Hp} {D : Addr} : Same (del H D) H := fun b u e => by
  unfold del at e
  by_cases h : b = D
  · rw [if_pos h] at e; cases e
  · rw [if_neg h] at e; exact e
theorem del_of {H0 H : Hp} {D : Addr} (s : Same H0 H) (h : H0 D = none) : Same H0 (del H D) := fun b u e => by
  unfold del
  rw [if_neg (ne_of_none e h)]
  exact s b u e
theorem del_mono {H H' : Hp} {D : Addr} (s : Same H H') : Same (del H D) (del H' D) := fun b u e => by
  unfold del at e ⊢
  by_cases h : b = D
  · rw [if_pos h] at e; cases e
  · rw [if_neg h] at e ⊢; exact s b u e
theorem del_upd {H : Hp} {D : Addr} {o : HO} : Same (del H D) (del (upd H D o) D) := fun b u e => by
  unfold del at e ⊢
  by_cases h : b = D
  · rw [if_pos h] at e; cases e
  · rw [if_neg h] at e ⊢; rw [upd_ne h]; exact e
theorem del_get {H : Hp} {D a : Addr} {o : HO} (h : H a = some o) (n : a ≠ D) : del H D a = some o := by
  unfold del
  rw [if_neg n]
  exact h
section
variable {K : PySem.W.Frag} {σ : L2.St} {H H1 : Hp} {Q : VK} {D : Ends} {i : Nat} {v x y : V} {ta tb te tc tv : TE} {r r' : R2} {t u : TT} {t1 t2 t3 : TS} {g : TG} {tl : TA}
/-! ### loops -/
theorem g_while (W : Nat → L2.St → Hp → Prop) (m0 : Nat) (h0 : W m0 σ H)
    (hs : ∀ m σ' H', W m σ' H' → t σ' H' fun b H1 => if b = true then ∃ N : L2.St → Hp → Prop, (∀ σ' H', N σ' H' → ∃ m', m' < m ∧ W m' σ' H') ∧ t1 { D with nx := N, ct := N, bk := D.nx } σ' H1 else D.nx σ' H1) : tWhile t t1 D σ H := ⟨W, ⟨m0, h0⟩, hs⟩
theorem g_wN {m : Nat} {W : Nat → L2.St → Hp → Prop} (k : t1 { D with nx := fun σ2 H2 => ∃ m', m' < m ∧ W m' σ2 H2, ct := fun σ2 H2 => ∃ m', m' < m ∧ W m' σ2 H2, bk := D.nx } σ H) :
    ∃ N : L2.St → Hp → Prop, (∀ σ' H', N σ' H' → ∃ m', m' < m ∧ W m' σ' H') ∧ t1 { D with nx := N, ct := N, bk := D.nx } σ H := ⟨_, fun _ _ h => h, k⟩
def ForL (K : PySem.W.Frag) (g : TG) (tb : TS) (D : Ends) (σ : L2.St) : V → Hp → Prop := fun x H1 => ∃ a, x = .ref a ∧ (∃ xs, SqL K H1 a xs) ∧ ∃ W : Nat → Nat → L2.St → Hp → Prop, (∃ m, W 0 m σ H1) ∧ ∀ i m σ H, W i m σ H →
  ((Itl K a).stop i H ∧ D.nx σ H) ∨ ((Itl K a).go i H ∧ ∃ N : L2.St → Hp → Prop, (∀ σ' H', N σ' H' → ∃ m', m' < m ∧ W (i + 1) m' σ' H') ∧ ∀ x H', (Itl K a).yld i H x H' → g x σ H' fun σ2 H2 => tb { D with nx := N, ct := N, bk := D.nx } σ2 H2)
theorem g_forL (k : te σ H (ForL K g t1 D σ)) : tFor (iList K te) g t1 D σ H := k
theorem forL_by {a : Addr} {xs : List V} (h : SqL K H a xs) (Pv : Nat → L2.St → Hp → Prop) (h0 : Pv 0 σ H) (hl : ∀ i σ' H', i ≤ xs.length → Pv i σ' H' → SqL K H' a xs)
    (hs : ∀ i x σ' H', xs[i]? = some x → Pv i σ' H' → g x σ' H' fun σ2 H2 => t1 { D with nx := Pv (i + 1), ct := Pv (i + 1), bk := D.nx } σ2 H2) (hd : ∀ σ' H', Pv xs.length σ' H' → D.nx σ' H') : ForL K g t1 D σ (.ref a) H := ⟨a, rfl, ⟨xs, h⟩, for_list Pv h0 hl hs hd⟩
def ForR1 (g : TG) (tb : TS) (D : Ends) (σ : L2.St) : List V → Hp → Prop := fun vs H1 => ∃ j : Int, vs = [.int j] ∧ -(2 ^ 62) ≤ j ∧ j < 2 ^ 62 ∧ ∃ W : Nat → Nat → L2.St → Hp → Prop, (∃ m, W 0 m σ H1) ∧ ∀ i m σ H, W i m σ H →
  ((Itr 0 j.toNat).stop i H ∧ D.nx σ H) ∨ ((Itr 0 j.toNat).go i H ∧ ∃ N : L2.St → Hp → Prop, (∀ σ' H', N σ' H' → ∃ m', m' < m ∧ W (i + 1) m' σ' H') ∧ ∀ x H', (Itr 0 j.toNat).yld i H x H' → g x σ H' fun σ2 H2 => tb { D with nx := N, ct := N, bk := D.nx } σ2 H2)
theorem g_forR1 (k : tl σ H (ForR1 g t1 D σ)) : tFor (iRng1 tl) g t1 D σ H := k
theorem forR1_by {j : Int} (h : -(2 ^ 62) ≤ j ∧ j < 2 ^ 62) (Pv : Nat → L2.St → Hp → Prop) (h0 : Pv 0 σ H)
    (hs : ∀ (i : Nat) σ' H', (i : Int) < j → Pv i σ' H' → g (.int (i : Int)) σ' H' fun σ2 H2 => t1 { D with nx := Pv (i + 1), ct := Pv (i + 1), bk := D.nx } σ2 H2) (hd : ∀ σ' H', Pv j.toNat σ' H' → D.nx σ' H') : ForR1 g t1 D σ [.int j] H := by
  refine ⟨j, rfl, h.1, h.2, for_range Pv h0 (fun i σ' H' hi p => ?_) hd⟩
  have e : (0 : Int) + (i : Int) = (i : Int) := Int.zero_add _
  rw [e]
  exact hs i σ' H' (by omega) p
def ForT (K : PySem.W.Frag) (g : TG) (tb : TS) (D : Ends) (σ : L2.St) : V → Hp → Prop := fun x H1 => ∃ a, x = .ref a ∧ (∃ xs, SqT K H1 a xs) ∧ ∃ W : Nat → Nat → L2.St → Hp → Prop, (∃ m, W 0 m σ H1) ∧ ∀ i m σ H, W i m σ H →
  ((Itt K a).stop i H ∧ D.nx σ H) ∨ ((Itt K a).go i H ∧ ∃ N : L2.St → Hp → Prop, (∀ σ' H', N σ' H' → ∃ m', m' < m ∧ W (i + 1) m' σ' H') ∧ ∀ x H', (Itt K a).yld i H x H' → g x σ H' fun σ2 H2 => tb { D with nx := N, ct := N, bk := D.nx } σ2 H2)
theorem g_forT (k : te σ H (ForT K g t1 D σ)) : tFor (iTup K te) g t1 D σ H := k
theorem forT_by {a : Addr} {xs : List V} (h : SqT K H a xs) (Pv : Nat → L2.St → Hp → Prop) (h0 : Pv 0 σ H) (hl : ∀ i σ' H', i ≤ xs.length → Pv i σ' H' → SqT K H' a xs)
    (hs : ∀ i x σ' H', xs[i]? = some x → Pv i σ' H' → g x σ' H' fun σ2 H2 => t1 { D with nx := Pv (i + 1), ct := Pv (i + 1), bk := D.nx } σ2 H2) (hd : ∀ σ' H', Pv xs.length σ' H' → D.nx σ' H') : ForT K g t1 D σ (.ref a) H := ⟨a, rfl, ⟨xs, h⟩, for_tup Pv h0 hl hs hd⟩
/-! ### comprehensions over a list -/
def LcL (K : PySem.W.Frag) (g : TG) (tt : TT) (te : TE) (vs : List Nat) (σ : L2.St) (Q : VK) : V → Hp → Prop := fun x H1 => ∃ a, x = .ref a ∧ (∃ xs, SqL K H1 a xs) ∧ ∀ D, H1 D = none → ∃ W : Nat → Nat → Hp → Prop, (∃ m, W 0 m (upd H1 D (.lst []))) ∧ ∀ i m H, W i m H →
  ((Itl K a).stop i H ∧ Q (.ref D) H) ∨ ((Itl K a).go i H ∧ ∃ Nx : Hp → Prop, (∀ H', Nx H' → ∃ m', m' < m ∧ W (i + 1) m' H') ∧ ∀ x H', (Itl K a).yld i H x H' → g x (wipe σ vs) H' fun σ2 H2 => wipe σ2 vs = wipe σ vs ∧ tt σ2 H2 fun b H3 =>
    if b = true then te σ2 H3 fun y H4 => ∃ acc, H4 D = some (.lst acc) ∧ acc.length < sizeLine ∧ Nx (upd H4 D (.lst (acc ++ [y]))) else Nx H3)
theorem g_lcL {vs : List Nat} (k : ta σ H (LcL K g t te vs σ Q)) : tLc (iList K ta) g t te vs σ H Q := k
theorem lcL_by {vs : List Nat} {a : Addr} {xs : List V} (h : SqL K H a xs) (Pv : Addr → Nat → Hp → Prop) (h0 : ∀ D, H D = none → Pv D 0 (upd H D (.lst []))) (hl : ∀ D i H', H D = none → i ≤ xs.length → Pv D i H' → SqL K H' a xs)
    (hs : ∀ D i x H', H D = none → xs[i]? = some x → Pv D i H' → g x (wipe σ vs) H' fun σ2 H2 => wipe σ2 vs = wipe σ vs ∧ t σ2 H2 fun b H3 =>
      if b = true then te σ2 H3 fun y H4 => ∃ acc, H4 D = some (.lst acc) ∧ acc.length < sizeLine ∧ Pv D (i + 1) (upd H4 D (.lst (acc ++ [y]))) else Pv D (i + 1) H3) (hd : ∀ D H', H D = none → Pv D xs.length H' → Q (.ref D) H') : LcL K g t te vs σ Q (.ref a) H :=
  ⟨a, rfl, ⟨xs, h⟩, fun D hD => lc_list (Pv D) (h0 D hD) (fun i H' => hl D i H' hD) (fun i x H' => hs D i x H' hD) fun H' => hd D H' hD⟩
/-- each item gives a datum: f i -/
theorem lcL_data {vs : List Nat} {a : Addr} {xs : List V} (h : SqL K H a xs) (f : Nat → PyData) (hz : xs.length < 10000000)
    (hs : ∀ (i : Nat) x H' D acc, xs[i]? = some x → Same H H' → H D = none → H' D = some (.lst acc) → ∀ k : VK, (∀ y H4, Same H' H4 → Dp K (del H4 D) y (f i) → k y H4) → g x (wipe σ vs) H' fun σ2 H2 => wipe σ2 vs = wipe σ vs ∧ te σ2 H2 k)
    (hd : ∀ D ys H', H D = none → Same H H' → H' D = some (.lst ys) → DpAll K (del H' D) ys ((List.range xs.length).map f) → Q (.ref D) H') : LcL K g tYes te vs σ Q (.ref a) H := by
  refine lcL_by h (fun D i H' => Same H H' ∧ ∃ ys, H' D = some (.lst ys) ∧ ys.length = i ∧ DpAll K (del H' D) ys ((List.range i).map f)) ?_ ?_ ?_ ?_
  · intro D hD
    exact ⟨Same.new hD, [], upd_same, rfl, .nil⟩
  · rintro D i H' hD hi ⟨s, _⟩
    exact s.seq h
  · rintro D i x H' hD hx ⟨s, ys, hys, hl, hr⟩
    have hi : i < xs.length := (List.getElem?_eq_some_iff.mp hx).1
    refine hs i x H' D ys hx s hD hys (fun y H4 => ∃ acc, H4 D = some (.lst acc) ∧ acc.length < sizeLine ∧ Same H (upd H4 D (.lst (acc ++ [y]))) ∧ ∃ ys, (upd H4 D (.lst (acc ++ [y]))) D = some (.lst ys) ∧ ys.length = i + 1 ∧ DpAll K (del (upd H4 D (.lst (acc ++ [y]))) D) ys ((List.range (i + 1)).map f)) ?_
    intro y H4 s4 r4
    have r5 : Dp K (del (upd H4 D (.lst (ys ++ [y]))) D) y (f i) := Dp.same del_upd r4
    refine ⟨ys, s4.get hys, Nat.lt_of_le_of_lt (by omega : ys.length ≤ 10000000) (by decide), (s.trans s4).mut hD, _, upd_same, by simp [hl], ?_⟩
    rw [List.range_succ, List.map_append]
    exact DpAll.app (DpAll.same ((del_mono s4).trans del_upd) hr) (.cons r5 .nil)
  · rintro D H' hD ⟨s, ys, hys, hl, hr⟩
    exact hd D ys H' hD s hys hr
/-! ### stores -/
theorem Kp.upd {p : Addr} {o : HO} : Kp (fun b => b = p) H (upd H p o) := fun b u e n => by rw [upd_ne n]; exact e
def FldS (K : PySem.W.Frag) (f : Str) (y : V) (R : Hp → Prop) : V → Hp → Prop := fun x H2 => ∃ a C dx fs, x = .ref a ∧ H2 a = some (.ins C dx fs) ∧ Cls K C ∧ NoAttr K C f ∧ fs.length < 1000 ∧ R (L2.upd H2 a (.ins C dx (putF f y fs)))
theorem g_sFld {f : Str} (k : tv σ H fun y H1 => ta σ H1 (FldS K f y (D.nx σ))) : sFld K ta tv f D σ H := k
theorem g_ssFld {f : Str} (k : tv σ H fun y H1 => ta σ H1 (FldS K f y (t2 D σ))) : tSeq (sFld K ta tv f) t2 D σ H := k
theorem fldS {f : Str} {a C dx : Addr} {fs fs' : List (Str × V)} {R : Hp → Prop} (h : H a = some (.ins C dx fs)) (c : Cls K C) (n : NoAttr K C f) (l : fs.length < 1000) (e : putF f y fs = fs') (k : ∀ H', Kp (fun b => b = a) H H' → H' a = some (.ins C dx fs') → R H') :
    FldS K f y R (.ref a) H := ⟨a, C, dx, fs, rfl, h, c, n, l, by rw [e]; exact k _ Kp.upd upd_same⟩
/-! ### dicts -/
theorem g_dget (k : ta σ H fun x H1 => tb σ H1 fun y H2 => ∃ a v, x = .ref a ∧ DGet H2 a y (some v) ∧ Q v H2) : tDGet ta tb σ H Q := k
theorem g_exDGs {a : Addr} {kvs : List (Key × V)} {x : Str} {R : V → Prop} (h : H a = some (.dK kvs)) (e : valV kvs (Sum.inr x) = some v) (k : R v) : ∃ a' v', V.ref a = .ref a' ∧ DGet H a' (.str x) (some v') ∧ R v' := ⟨a, v, rfl, by rw [← e]; exact DGet.k (k := Sum.inr x) h, k⟩
theorem g_exDGi {a : Addr} {kvs : List (Key × V)} {x : Int} {R : V → Prop} (h : H a = some (.dK kvs)) (e : valV kvs (Sum.inl x) = some v) (k : R v) : ∃ a' v', V.ref a = .ref a' ∧ DGet H a' (.int x) (some v') ∧ R v' := ⟨a, v, rfl, by rw [← e]; exact DGet.k (k := Sum.inl x) h, k⟩
theorem g_sDput (k : tv σ H fun v H1 => ta σ H1 fun x H2 => tb σ H2 fun y H3 => ∃ a H4, x = .ref a ∧ DPut H3 a y v H4 ∧ D.nx σ H4) : sDPut ta tb tv D σ H := k
theorem g_ssDput (k : tv σ H fun v H1 => ta σ H1 fun x H2 => tb σ H2 fun y H3 => ∃ a H4, x = .ref a ∧ DPut H3 a y v H4 ∧ t2 D σ H4) : tSeq (sDPut ta tb tv) t2 D σ H := k
theorem g_exDPs {a : Addr} {kvs kvs' : List (Key × V)} {x : Str} {R : Hp → Prop} (h : H a = some (.dK kvs)) (l : kvs.length < sizeLine) (e : putK kvs (Sum.inr x) v = kvs') (k : ∀ H', Kp (fun b => b = a) H H' → H' a = some (.dK kvs') → R H') :
    ∃ a' H4, V.ref a = .ref a' ∧ DPut H a' (.str x) v H4 ∧ R H4 := ⟨a, _, rfl, DPut.k (k := Sum.inr x) h l, by rw [e]; exact k _ Kp.upd upd_same⟩
theorem g_exDPi {a : Addr} {kvs kvs' : List (Key × V)} {x : Int} {R : Hp → Prop} (h : H a = some (.dK kvs)) (l : kvs.length < sizeLine) (e : putK kvs (Sum.inl x) v = kvs') (k : ∀ H', Kp (fun b => b = a) H H' → H' a = some (.dK kvs') → R H') :
    ∃ a' H4, V.ref a = .ref a' ∧ DPut H a' (.int x) v H4 ∧ R H4 := ⟨a, _, rfl, DPut.k (k := Sum.inl x) h l, by rw [e]; exact k _ Kp.upd upd_same⟩
/-! ### built-in types' methods -/
theorem g_BM {T : String} {rr : V → List V → Hp → VK → Prop} (k : ta σ H fun x H1 => tyV K T x H1 ∧ tl σ H1 fun xs H2 => rr x xs H2 Q) : tBM K T rr ta tl σ H Q := k
theorem g_BM0 {T : String} {rr : V → List V → Hp → VK → Prop} (k : ta σ H fun x H1 => tyV K T x H1 ∧ rr x [] H1 Q) : tBM0 K T rr ta σ H Q := k
theorem g_tyL {a : Addr} {xs : List V} {p : Prop} (h : SqL K H a xs) (k : p) : tyV K "list" (.ref a) H ∧ p := ⟨.inl ⟨rfl, xs, h⟩, k⟩
theorem g_tyS {z : Str} {p : Prop} (k : p) : tyV K "str" (.str z) H ∧ p := ⟨rfl, k⟩
theorem g_append {l : Addr} {xs : List V} (h : H l = some (.lst xs)) (z : xs.length < sizeLine) (k : ∀ H', Kp (fun b => b = l) H H' → H' l = some (.lst (xs ++ [y])) → Q .non H') : rAppend (.ref l) [y] H Q := ⟨l, xs, y, rfl, rfl, h, z, k _ Kp.upd upd_same⟩
theorem g_extend {l b : Addr} {xs zs : List V} (h : H l = some (.lst xs)) (hb : H b = some (.lst zs)) (z : xs.length + zs.length ≤ sizeLine) (k : ∀ H', Kp (fun b => b = l) H H' → H' l = some (.lst (xs ++ zs)) → Q .non H') : rExtend (.ref l) [.ref b] H Q := ⟨l, b, xs, zs, rfl, rfl, h, hb, z, k _ Kp.upd upd_same⟩
theorem g_popAt {l : Addr} {xs : List V} {n : Int} {j : Nat} (h : H l = some (.lst xs)) (hn : n = (j : Int)) (hz : xs.length ≤ 16777216) (e : xs[j]? = some y) (k : ∀ H', Kp (fun b => b = l) H H' → H' l = some (.lst (xs.eraseIdx j)) → Q y H') : rPopAt (.ref l) [.int n] H Q := by
  have hj : j < xs.length := (List.getElem?_eq_some_iff.mp e).1
  refine ⟨l, xs, n, j, y, rfl, rfl, h, by omega, by omega, ?_, e, k _ Kp.upd upd_same⟩
  subst hn
  unfold seqIndex?
  have h1 : ¬ ((j : Int) < 0) := by omega
  simp [h1, hj]
theorem g_pop0 {l : Addr} {xs : List V} (h : H l = some (.lst (y :: xs))) (hz : xs.length < 16777216) (k : ∀ H', Kp (fun b => b = l) H H' → H' l = some (.lst xs) → Q y H') : rPopAt (.ref l) [.int 0] H Q :=
  g_popAt (j := 0) h rfl (by simp; omega) rfl k
theorem g_pop {l : Addr} {xs : List V} (h : H l = some (.lst (xs ++ [y]))) (k : ∀ H', Kp (fun b => b = l) H H' → H' l = some (.lst xs) → Q y H') : rPop (.ref l) [] H Q :=
  ⟨l, xs ++ [y], y, rfl, rfl, h, by simp, by rw [List.dropLast_concat]; exact k _ Kp.upd upd_same⟩
/-! ### built-in functions -/
theorem g_sum {a : Addr} {ns : List Int} (h : SqL K H a (ns.map V.int)) (k : Q (.int ns.sum) H) : rSum K [.ref a] H Q := ⟨a, ns, rfl, h, k⟩
theorem g_all {a : Addr} {bs : List Bool} (h : SqL K H a (bs.map V.bl)) (k : Q (.bl (bs.all id)) H) : rAll K [.ref a] H Q := ⟨a, bs, rfl, h, k⟩
theorem g_any {a : Addr} {bs : List Bool} (h : SqL K H a (bs.map V.bl)) (k : Q (.bl (bs.any id)) H) : rAny K [.ref a] H Q := ⟨a, bs, rfl, h, k⟩
theorem g_sorted {a : Addr} {ns : List Int} (h : SqL K H a (ns.map V.int)) (z : ns.length < 64) (k : ∀ (ns' : List Int) (p : Addr) (H' : Hp), ns'.Perm ns → ns'.Pairwise (· ≤ ·) → H p = none → Same H H' → H' p = some (.lst (ns'.map V.int)) → Q (.ref p) H') : rSorted K [.ref a] H Q :=
  ⟨a, ns, rfl, h, z, fun ns' p h1 h2 h3 => k ns' p _ h1 h2 h3 (Same.new h3) upd_same⟩
theorem g_eqD {d e : PyData} {b : Bool} (hx : Dp K H x d) (hy : Dp K H y e) (h1 : SeqAt.shaped d = true) (h2 : SeqAt.shaped e = true) (hb : PyData.eqv d e = b) (k : Q (.bl b) H) : rEqD K x y H Q := ⟨d, e, hx, hy, h1, h2, by rw [hb]; exact k⟩
theorem g_neD {d e : PyData} {b : Bool} (hx : Dp K H x d) (hy : Dp K H y e) (h1 : SeqAt.shaped d = true) (h2 : SeqAt.shaped e = true) (hb : PyData.eqv d e = b) (k : Q (.bl (!b)) H) : rNeD K x y H Q := ⟨d, e, hx, hy, h1, h2, by rw [hb]; exact k⟩
/-! ### slices -/
theorem g_sl {rr : V → Option Int → Option Int → Hp → VK → Prop} {tlo thi : TO} (k : te σ H fun x H1 => tlo σ H1 fun l H2 => thi σ H2 fun u H3 => rr x l u H3 Q) : tSl rr te tlo thi σ H Q := k
theorem g_noPart {Q : Option Int → Hp → Prop} (k : Q none H) : tNoPart σ H Q := k
theorem g_part {Q : Option Int → Hp → Prop} (k : te σ H fun x H1 => ∃ i, x = V.int i ∧ Q (some i) H1) : tPart te σ H Q := k
theorem g_slL {a : Addr} {xs : List V} {lo hi : Option Int} (h : SqL K H a xs) (k : ∀ p H', H p = none → Same H H' → H' p = some (.lst (cutV xs lo hi)) → Q (.ref p) H') : rSlL K (.ref a) lo hi H Q := ⟨a, xs, rfl, h, fun p hp => k p _ hp (Same.new hp) upd_same⟩
theorem g_cat {a b : Addr} {xs ys : List V} (h : H a = some (.lst xs)) (hb : H b = some (.lst ys)) (z : xs.length + ys.length ≤ sizeLine) (k : ∀ p H', H p = none → Same H H' → H' p = some (.lst (xs ++ ys)) → Q (.ref p) H') : rCat (.ref a) (.ref b) H Q := ⟨a, b, xs, ys, rfl, rfl, h, hb, z, fun p hp => k p _ hp (Same.new hp) upd_same⟩
/-! ### displays of dicts -/
theorem g_disp {trs : List (TE × TE)} (k : ∀ p H1, H p = none → Same H H1 → H1 p = some (.dK []) → tPairs trs σ H1 fun ps H2 => H2 p = some (.dK []) ∧ ∃ kvs : List (Key × V), ps = kvs.map (fun kv => (kV kv.1, kv.2)) ∧ kvs.length ≤ 15 ∧ Q (.ref p) (L2.upd H2 p (.dK (mergeK [] kvs)))) : tDisp trs σ H Q := fun p hp => k p _ hp (Same.new hp) upd_same
theorem g_dnewK (k : ∀ p H', H p = none → Same H H' → H' p = some (.dK []) → Q (.ref p) H') : tDNewK σ H Q := fun p hp => k p _ hp (Same.new hp) upd_same
theorem g_dnewT (k : ∀ p H', H p = none → Same H H' → H' p = some (.dT []) → Q (.ref p) H') : tDNewT σ H Q := fun p hp => k p _ hp (Same.new hp) upd_same
theorem g_pairs0 {Q : List (V × V) → Hp → Prop} (k : Q [] H) : tPairs [] σ H Q := k
theorem g_pairs {rs : List (TE × TE)} {Q : List (V × V) → Hp → Prop} (k : ta σ H fun x H1 => tb σ H1 fun y H2 => tPairs rs σ H2 fun ps H3 => Q ((x, y) :: ps) H3) : tPairs ((ta, tb) :: rs) σ H Q := k
theorem g_nameN {σ' : L2.St} {Q : L2.St → Hp → Prop} (e : σ.set i (some v) = σ') (k : Q σ' H) : gName i v σ H Q := by rw [← e] at k; exact k
theorem mutK {H0 H1 H2 : Hp} {p : Addr} (s : Same H0 H1) (h : H0 p = none) (k : Kp (fun b => b = p) H1 H2) : Same H0 H2 := fun b o e => k b o (s b o e) (ne_of_none e h)
theorem g_wipe {p : Prop} {a b : L2.St} (e : a = b) (k : p) : a = b ∧ p := ⟨e, k⟩
theorem lcL_vals {vs : List Nat} {a : Addr} {xs ys : List V} (h : SqL K H a xs) (hl : ys.length = xs.length) (hz : xs.length < 10000000)
    (hs : ∀ (i : Nat) x y H', xs[i]? = some x → ys[i]? = some y → Same H H' → ∀ k : VK, (∀ H4, Same H' H4 → k y H4) → g x (wipe σ vs) H' fun σ2 H2 => wipe σ2 vs = wipe σ vs ∧ te σ2 H2 k)
    (hd : ∀ D H', H D = none → Same H H' → H' D = some (.lst ys) → Q (.ref D) H') : LcL K g tYes te vs σ Q (.ref a) H := by
  refine lcL_by h (fun D i H' => Same H H' ∧ H' D = some (.lst (ys.take i))) ?_ ?_ ?_ ?_
  · intro D hD
    exact ⟨Same.new hD, upd_same⟩
  · rintro D i H' hD hi ⟨s, _⟩
    exact s.seq h
  · rintro D i x H' hD hx ⟨s, hys⟩
    have hi : i < xs.length := (List.getElem?_eq_some_iff.mp hx).1
    obtain ⟨y, hy⟩ : ∃ y, ys[i]? = some y := ⟨ys[i]'(by omega), by simp [hl, hi]⟩
    refine hs i x y H' hx hy s (fun y H4 => ∃ acc, H4 D = some (.lst acc) ∧ acc.length < sizeLine ∧ Same H (upd H4 D (.lst (acc ++ [y]))) ∧ (upd H4 D (.lst (acc ++ [y]))) D = some (.lst (ys.take (i + 1)))) ?_
    intro H4 s4
    refine ⟨_, s4.get hys, Nat.lt_of_le_of_lt (by rw [List.length_take]; omega : _ ≤ 10000000) (by decide), (s.trans s4).mut hD, ?_⟩
    rw [upd_same, List.take_add_one, hy]
    rfl
  · rintro D H' hD ⟨s, hys⟩
    rw [List.take_of_length_le (by omega)] at hys
    exact hd D H' hD s hys
theorem lcL_ints {vs : List Nat} {a : Addr} {ns : List Int} (h : SqL K H a (ns.map V.int)) (f : Int → V) (hz : ns.length < 10000000)
    (hs : ∀ z ∈ ns, ∀ H', Same H H' → ∀ k : VK, (∀ H4, Same H' H4 → k (f z) H4) → g (.int z) (wipe σ vs) H' fun σ2 H2 => wipe σ2 vs = wipe σ vs ∧ te σ2 H2 k)
    (hd : ∀ D H', H D = none → Same H H' → H' D = some (.lst (ns.map f)) → Q (.ref D) H') : LcL K g tYes te vs σ Q (.ref a) H := by
  refine lcL_vals (ys := ns.map f) h (by simp) (by simpa using hz) (fun i x y H' hx hy s k hk => ?_) hd
  rw [List.getElem?_map] at hx hy
  cases e : ns[i]? with
  | none => rw [e] at hx; cases hx
  | some z =>
    rw [e] at hx hy
    obtain rfl := Option.some.inj hx
    obtain rfl := Option.some.inj hy
    exact hs z (List.mem_of_getElem? e) H' s k hk
end
/-! ### instances made -/
def MakeS (C : Addr) (sp : Sp) (dvs : List V) (E : XK) (Q : VK) : List V → Hp → Prop := fun vs H1 => ∀ x dx, H1 x = none → H1 dx = none → dx ≠ x → sp (.ref x :: (vs ++ dvs)) (L2.upd (L2.upd H1 dx (.own x)) x (.ins C dx [])) (fun v H2 => v = .non ∧ Q (.ref x) H2) E
theorem g_make {C : Addr} {sp : Sp} {dvs : List V} {E : XK} {tl : TA} {σ : L2.St} {H : Hp} {Q : VK} (k : tl σ H (MakeS C sp dvs E Q)) : tMake C sp dvs E tl σ H Q := k
theorem newI {C : Addr} {sp : Sp} {dvs vs : List V} {E : XK} {H1 : Hp} {Q : VK} (k : ∀ x dx H2, H1 x = none → H1 dx = none → Same H1 H2 → H2 x = some (.ins C dx []) → sp (.ref x :: (vs ++ dvs)) H2 (fun v H3 => v = .non ∧ Q (.ref x) H3) E) : MakeS C sp dvs E Q vs H1 :=
  fun x dx h1 h2 _ => k x dx _ h1 h2 (fun b o e => by rw [upd_ne (ne_of_none e h1), upd_ne (ne_of_none e h2)]; exact e) upd_same
/-! ### items of written lists of ints -/
theorem pick_int {zs : List Int} {j : Nat} {v : V} (h : (zs.map V.int)[j]? = some v) : ∃ z, v = .int z ∧ z ∈ zs := by
  rw [List.getElem?_map] at h
  cases e : zs[j]? with
  | none => rw [e] at h; cases h
  | some z => rw [e] at h; exact ⟨z, (Option.some.inj h).symm, List.mem_of_getElem? e⟩
theorem cut_last (xs : List V) : cutV xs none (some (-1)) = xs.dropLast := by
  unfold cutV
  have e1 : HT.sIx xs.length 0 none = 0 := rfl
  have e2 : HT.sIx xs.length xs.length (some (-1)) = xs.length - 1 := by
    show ((-1 : Int) + (xs.length : Int)).toNat = xs.length - 1
    omega
  rw [e1, e2, List.drop_zero, List.dropLast_eq_take]
  rfl
theorem g_isNr {a : Addr} {H : Hp} {Q : VK} (k : Q (.bl false) H) : rIsN' (.ref a) .non H Q := ⟨rfl, k⟩
theorem g_notNr {a : Addr} {H : Hp} {Q : VK} (k : Q (.bl true) H) : rNotN' (.ref a) .non H Q := ⟨rfl, k⟩
theorem g_isNi {a : Int} {H : Hp} {Q : VK} (k : Q (.bl false) H) : rIsN' (.int a) .non H Q := ⟨rfl, k⟩
theorem g_notNi {a : Int} {H : Hp} {Q : VK} (k : Q (.bl true) H) : rNotN' (.int a) .non H Q := ⟨rfl, k⟩
theorem g_isNb {a : Bool} {H : Hp} {Q : VK} (k : Q (.bl false) H) : rIsN' (.bl a) .non H Q := ⟨rfl, k⟩
theorem g_notNb {a : Bool} {H : Hp} {Q : VK} (k : Q (.bl true) H) : rNotN' (.bl a) .non H Q := ⟨rfl, k⟩
theorem g_isNs {a : Str} {H : Hp} {Q : VK} (k : Q (.bl false) H) : rIsN' (.str a) .non H Q := ⟨rfl, k⟩
theorem g_notNs {a : Str} {H : Hp} {Q : VK} (k : Q (.bl true) H) : rNotN' (.str a) .non H Q := ⟨rfl, k⟩
theorem g_isNn {H : Hp} {Q : VK} (k : Q (.bl true) H) : rIsN' .non .non H Q := ⟨rfl, k⟩
theorem g_notNn {H : Hp} {Q : VK} (k : Q (.bl false) H) : rNotN' .non .non H Q := ⟨rfl, k⟩
/-! ### parts of a text -/
def bodyOf : Stmt → List Stmt
  | .For _ _ b _ _ => b
  | .While _ b _ _ => b
  | .If _ b _ _ => b
  | _ => []
def elseOf : Stmt → List Stmt
  | .If _ _ b _ => b
  | _ => []
theorem canLay_ints : ∀ ns : List Int, PyData.canLayAll0 (ns.map .int) = true
  | [] => rfl
  | n :: r => by
    show (PyData.canLay0 (.int n) && PyData.canLayAll0 (r.map .int)) = true
    rw [canLay_ints r]; rfl
theorem depth_ints : ∀ ns : List Int, PyData.depthAll (ns.map .int) = 0
  | [] => rfl
  | n :: r => by
    show max (PyData.depth (.int n)) (PyData.depthAll (r.map .int)) = 0
    rw [depth_ints r]; rfl
theorem shaped_ints (ns : List Int) : SeqAt.shaped (.list (ns.map .int)) = true := by
  show (PyData.canLayAll0 (ns.map .int) && decide (PyData.depthAll (ns.map .int) + 1 ≤ 64)) = true
  rw [canLay_ints, depth_ints]; rfl
theorem eqv_ints : ∀ ns : List Int, PyData.eqv (.list (ns.map .int)) (.list (ns.map .int)) = true := fun ns => SeqAt.eqv_refl _ (canLay_ints ns)
theorem Kp.refl {S : Addr → Prop} (H : Hp) : Kp S H H := fun _ _ h _ => h
end Wb
/-! # Rules that name the written part: so that they stand within a comprehension, too. -/
namespace Wb
open PySem PySem.Spec PyProof.Rows L2
section
variable {X : Cx} {K : PySem.W.Frag} (hK : X.K = K)
include hK
theorem ix_listK : IxR X (rIxL K) := by subst hK; exact ix_list
theorem ix_tupK : IxR X (rIxT K) := by subst hK; exact ix_tup
theorem sl_listK : SlR X (rSlL K) := by subst hK; exact sl_list
theorem sl_tupK : SlR X (rSlT K) := by subst hK; exact sl_tup
theorem op_inK : OpR X (compareOp .In) (rIn K false) := by subst hK; exact op_in_seq
theorem op_ninK : OpR X (compareOp .NotIn) (rIn K true) := by subst hK; exact op_notIn_seq
theorem op_eqDK (hu : X.A.units + 64 < cLine) : OpR X (compareOp .Eq) (rEqD K) := by subst hK; exact op_eqD hu
theorem op_neDK (hu : X.A.units + 64 < cLine) : OpR X (compareOp .NotEq) (rNeD K) := by subst hK; exact op_neD hu
theorem op_catTK : OpR X (binaryOp .Add) (rCatT K) := by subst hK; exact op_catT
theorem op_ltTK (hu : X.A.units < cLine) : OpR X (compareOp .Lt) (rLtT K) := by subst hK; exact op_ltT hu
theorem call_lenK : CallR X (.builtin "len") (rLenS K) := by subst hK; exact call_lenS'
theorem call_listK : CallR X (.type "list") (rListOf K) := by subst hK; exact call_listOf'
theorem call_isiK' : CallR X (.builtin "isinstance") (rIsi K) := by subst hK; exact call_isi
theorem call_isiTK' : CallR X (.builtin "isinstance") (rIsiT K) := by subst hK; exact call_isiT
theorem cr_sumK (hc : X.calm = true) : CallR X (.builtin "sum") (rSum K) := by subst hK; exact cr_sum hc
theorem cr_allK (hc : X.calm = true) : CallR X (.builtin "all") (rAll K) := by subst hK; exact cr_all hc
theorem cr_anyK (hc : X.calm = true) : CallR X (.builtin "any") (rAny K) := by subst hK; exact cr_any hc
theorem cr_minK (hc : X.calm = true) : CallR X (.builtin "min") (rMin K) := by subst hK; exact cr_min hc
theorem cr_maxK (hc : X.calm = true) : CallR X (.builtin "max") (rMax K) := by subst hK; exact cr_max hc
theorem cr_sortedK : CallR X (.builtin "sorted") (rSorted K) := by subst hK; exact cr_sorted
theorem cr_sortedSK : CallR X (.builtin "sorted") (rSortedS K) := by subst hK; exact cr_sortedS
theorem mt_indexK : MtR X "list.index" (rIndex K) := by subst hK; exact mt_index
theorem pi_listK {tg l : Expr} {tl : TE} (hl : PE X l tl) : PI X tg l (iList K tl) := by subst hK; exact pi_list hl
theorem pi_tupK {tg l : Expr} {tl : TE} (hl : PE X l tl) : PI X tg l (iTup K tl) := by subst hK; exact pi_tup hl
theorem pi_enumK {e : Expr} {ta : TA} {p pos tpos : Pos} {elts : List Expr} {kk : Nat} (hg : Gl X "enumerate") (hm : X.mg "enumerate" = none) (ha : PA X [e] ta) (hs : starEach [e] X.env = [(false, eval e X.env)] := by rfl) :
    PI X (.Tuple elts kk tpos) (.Call (.Name "enumerate" p) [e] [] pos) (iEnum K ta) := by subst hK; exact pi_enum hg hm ha hs
theorem pi_zipK {e e2 : Expr} {ta : TA} {p pos tpos : Pos} {elts : List Expr} {kk : Nat} (hg : Gl X "zip") (hm : X.mg "zip" = none) (ha : PA X [e, e2] ta)
    (hs : starEach [e, e2] X.env = (false, eval e X.env) :: starEach [e2] X.env := by rfl) (hpl : (backTo pos (starEach [e2] X.env)).any (·.1) = false := by rfl) :
    PI X (.Tuple elts kk tpos) (.Call (.Name "zip" p) [e, e2] [] pos) (iZip K ta) := by subst hK; exact pi_zip hg hm ha hs hpl
theorem pg_tupK {es : List Expr} {k : Nat} {t : TGs} {n : Nat} {pos : Pos} (hc : X.calm = true) (h : PGs X es t)
    (hn : (assignEach es X.env).length = n := by rfl) (hst : (assignEach es X.env).findIdx? (·.1) = none := by rfl) : PG X (.Tuple es k pos) (gTup K n t) := by subst hK; exact pg_tup hc h hn hst
theorem pe_fldK {e : Expr} {f : Str} {pos : Pos} {ta : TE} (he : PE X e ta) (hb : attributeBase e f X.env (eval e X.env) = eval e X.env := by rfl) : PE X (.Attribute e f pos) (tFld K ta f) := by subst hK; exact pe_fld he hb
theorem ps_fldK {o value : Expr} {f : Str} {pos pos' : Pos} {ta tv : TE} (ha : PE X o ta) (hv : PE X value tv) (hs : swapsWith value (some (.Attribute o f pos')) pos.line X.env = pure false := by rfl) : PS X (.Assign [.Attribute o f pos'] value pos) (sFld K ta tv f) := by subst hK; exact ps_fld ha hv hs
theorem pe_bmK {o e : Expr} {es : List Expr} {to : TE} {t : TA} {name : Str} {apos cpos : Pos} {T id : String} {r : V → List V → Hp → VK → Prop} (pa : PlainAttrs T) (slot : Slot T name id) (hty : typeOf (.builtin id) = pure (.type "method_descriptor")) (hm : MtR X id r) (ho : PE X o to) (ha : PA X (e :: es) t)
    (hbase : attributeBase o name X.env (eval o X.env) = eval o X.env := by rfl)
    (hfew : ((backTo cpos (starEach (e :: es) X.env)).all (fun x => !x.1) && (backToKw cpos (keywordEach [] X.env)).all (fun x => x.1.isSome)
      && decide ((e :: es).length + ([] : List Keyword).length + (if ([] : List Keyword).isEmpty then 0 else 1) < 30)) = true := by rfl)
    (hline : (apos.endLine == cpos.line) = true := by rfl) (hs : starEach (e :: es) X.env = (false, eval e X.env) :: starEach es X.env := by rfl) (hplain : (backTo cpos (starEach es X.env)).any (·.1) = false := by rfl) :
    PE X (.Call (.Attribute o name apos) (e :: es) [] cpos) (tBM K T r to t) := by subst hK; exact pe_bm pa slot hty hm ho ha hbase hfew hline hs hplain
theorem pe_bm0K {o : Expr} {to : TE} {name : Str} {apos cpos : Pos} {T id : String} {r : V → List V → Hp → VK → Prop} (pa : PlainAttrs T) (slot : Slot T name id) (hty : typeOf (.builtin id) = pure (.type "method_descriptor")) (hm : MtR X id r) (ho : PE X o to)
    (hbase : attributeBase o name X.env (eval o X.env) = eval o X.env := by rfl) (hline : (apos.endLine == cpos.line) = true := by rfl) : PE X (.Call (.Attribute o name apos) [] [] cpos) (tBM0 K T r to) := by subst hK; exact pe_bm0 pa slot hty hm ho hbase hline
end
end Wb
namespace Pr
open PySem PySem.Spec PyProof.Rows L2 Wb
/-! ### the text by places -/
def top (i : Nat) : Stmt := PySem.Challenge.pw_wholepaid_k78_whole_least_payments.main.body.getD i (.Pass ⟨0, 0, 0, 0⟩)
abbrev sd_is_number : Stmt := top 5
abbrev sd_is_number_in : Stmt := top 6
abbrev sd_is_list : Stmt := top 7
abbrev sd_Plan_D___init__ : Stmt := inClass (top 15) 0
abbrev sd_Plan_D_rate : Stmt := inClass (top 15) 1
abbrev sd_Plan_D_share : Stmt := inClass (top 15) 2
abbrev sd_need_plan : Stmt := top 16
abbrev sd_need_balance : Stmt := top 17
abbrev sd_month_with : Stmt := top 18
abbrev sd_month : Stmt := top 19
abbrev sd_row_with : Stmt := top 20
abbrev sd_ending : Stmt := top 21
abbrev sd_evidence : Stmt := top 22
abbrev sd_is_evidence : Stmt := top 23
abbrev sd_first_with : Stmt := top 24
abbrev sd_least_endless : Stmt := top 25
abbrev sd_greatest_to : Stmt := top 26
abbrev sd_most_within : Stmt := top 27
abbrev sd_is_enough : Stmt := top 28
abbrev sd_least_extra : Stmt := top 29
abbrev sd__law_begun : Stmt := top 31
abbrev sd__law_mixed : Stmt := top 32
abbrev sd__law_take : Stmt := top 33
abbrev sd__law_pick : Stmt := top 34
abbrev sd__law_parts : Stmt := top 35
abbrev sd__law_planned : Stmt := top 36
abbrev sd__law_sum_drawn : Stmt := top 37
abbrev sd__law_paid_sum : Stmt := top 38
abbrev sd__law_one_right : Stmt := top 39
abbrev sd_law : Stmt := top 40
/-! ### the defs, the facts -/
def dd_is_number : He5.DefA := ⟨fun K => He.ga K "is_number", "is_number", "is_number", defArgs sd_is_number, defBody sd_is_number, defScope sd_is_number, [], []⟩
def dd_is_number_in : He5.DefA := ⟨fun K => He.ga K "is_number_in", "is_number_in", "is_number_in", defArgs sd_is_number_in, defBody sd_is_number_in, defScope sd_is_number_in, [], []⟩
def dd_is_list : He5.DefA := ⟨fun K => He.ga K "is_list", "is_list", "is_list", defArgs sd_is_list, defBody sd_is_list, defScope sd_is_list, [], []⟩
def dd_Plan_D___init__ : He5.DefA := ⟨fun K => He.ma K (He.ga K "Plan") "__init__", "__init__", "Plan.__init__", defArgs sd_Plan_D___init__, defBody sd_Plan_D___init__, defScope sd_Plan_D___init__, [.bl false], []⟩
def dd_Plan_D_rate : He5.DefA := ⟨pgA "Plan" "rate", "rate", "Plan.rate", defArgs sd_Plan_D_rate, defBody sd_Plan_D_rate, defScope sd_Plan_D_rate, [], []⟩
def dd_Plan_D_share : He5.DefA := ⟨pgA "Plan" "share", "share", "Plan.share", defArgs sd_Plan_D_share, defBody sd_Plan_D_share, defScope sd_Plan_D_share, [], []⟩
def dd_need_plan : He5.DefA := ⟨fun K => He.ga K "need_plan", "need_plan", "need_plan", defArgs sd_need_plan, defBody sd_need_plan, defScope sd_need_plan, [], []⟩
def dd_need_balance : He5.DefA := ⟨fun K => He.ga K "need_balance", "need_balance", "need_balance", defArgs sd_need_balance, defBody sd_need_balance, defScope sd_need_balance, [], []⟩
def dd_month_with : He5.DefA := ⟨fun K => He.ga K "month_with", "month_with", "month_with", defArgs sd_month_with, defBody sd_month_with, defScope sd_month_with, [], []⟩
def dd_month : He5.DefA := ⟨fun K => He.ga K "month", "month", "month", defArgs sd_month, defBody sd_month, defScope sd_month, [], []⟩
def dd_row_with : He5.DefA := ⟨fun K => He.ga K "row_with", "row_with", "row_with", defArgs sd_row_with, defBody sd_row_with, defScope sd_row_with, [], []⟩
def dd_ending : He5.DefA := ⟨fun K => He.ga K "ending", "ending", "ending", defArgs sd_ending, defBody sd_ending, defScope sd_ending, [], []⟩
def dd_evidence : He5.DefA := ⟨fun K => He.ga K "evidence", "evidence", "evidence", defArgs sd_evidence, defBody sd_evidence, defScope sd_evidence, [], []⟩
def dd_is_evidence : He5.DefA := ⟨fun K => He.ga K "is_evidence", "is_evidence", "is_evidence", defArgs sd_is_evidence, defBody sd_is_evidence, defScope sd_is_evidence, [], []⟩
def dd_first_with : He5.DefA := ⟨fun K => He.ga K "first_with", "first_with", "first_with", defArgs sd_first_with, defBody sd_first_with, defScope sd_first_with, [], []⟩
def dd_least_endless : He5.DefA := ⟨fun K => He.ga K "least_endless", "least_endless", "least_endless", defArgs sd_least_endless, defBody sd_least_endless, defScope sd_least_endless, [], []⟩
def dd_greatest_to : He5.DefA := ⟨fun K => He.ga K "greatest_to", "greatest_to", "greatest_to", defArgs sd_greatest_to, defBody sd_greatest_to, defScope sd_greatest_to, [], []⟩
def dd_most_within : He5.DefA := ⟨fun K => He.ga K "most_within", "most_within", "most_within", defArgs sd_most_within, defBody sd_most_within, defScope sd_most_within, [], []⟩
def dd_is_enough : He5.DefA := ⟨fun K => He.ga K "is_enough", "is_enough", "is_enough", defArgs sd_is_enough, defBody sd_is_enough, defScope sd_is_enough, [], []⟩
def dd_least_extra : He5.DefA := ⟨fun K => He.ga K "least_extra", "least_extra", "least_extra", defArgs sd_least_extra, defBody sd_least_extra, defScope sd_least_extra, [], []⟩
def dd__law_begun : He5.DefA := ⟨fun K => He.ga K "_law_begun", "_law_begun", "_law_begun", defArgs sd__law_begun, defBody sd__law_begun, defScope sd__law_begun, [], []⟩
def dd__law_mixed : He5.DefA := ⟨fun K => He.ga K "_law_mixed", "_law_mixed", "_law_mixed", defArgs sd__law_mixed, defBody sd__law_mixed, defScope sd__law_mixed, [], []⟩
def dd__law_take : He5.DefA := ⟨fun K => He.ga K "_law_take", "_law_take", "_law_take", defArgs sd__law_take, defBody sd__law_take, defScope sd__law_take, [], []⟩
def dd__law_pick : He5.DefA := ⟨fun K => He.ga K "_law_pick", "_law_pick", "_law_pick", defArgs sd__law_pick, defBody sd__law_pick, defScope sd__law_pick, [], []⟩
def dd__law_parts : He5.DefA := ⟨fun K => He.ga K "_law_parts", "_law_parts", "_law_parts", defArgs sd__law_parts, defBody sd__law_parts, defScope sd__law_parts, [], []⟩
def dd__law_planned : He5.DefA := ⟨fun K => He.ga K "_law_planned", "_law_planned", "_law_planned", defArgs sd__law_planned, defBody sd__law_planned, defScope sd__law_planned, [], []⟩
def dd__law_sum_drawn : He5.DefA := ⟨fun K => He.ga K "_law_sum_drawn", "_law_sum_drawn", "_law_sum_drawn", defArgs sd__law_sum_drawn, defBody sd__law_sum_drawn, defScope sd__law_sum_drawn, [], []⟩
def dd__law_paid_sum : He5.DefA := ⟨fun K => He.ga K "_law_paid_sum", "_law_paid_sum", "_law_paid_sum", defArgs sd__law_paid_sum, defBody sd__law_paid_sum, defScope sd__law_paid_sum, [], []⟩
def dd__law_one_right : He5.DefA := ⟨fun K => He.ga K "_law_one_right", "_law_one_right", "_law_one_right", defArgs sd__law_one_right, defBody sd__law_one_right, defScope sd__law_one_right, [], []⟩
def dd_law : He5.DefA := ⟨fun K => He.ga K "law", "law", "law", defArgs sd_law, defBody sd_law, defScope sd_law, [], []⟩
def fn0 : List He5.DefA := [dd_is_number, dd_is_number_in, dd_is_list, dd_Plan_D___init__, dd_Plan_D_rate, dd_Plan_D_share, dd_need_plan, dd_need_balance, dd_month_with, dd_month, dd_row_with, dd_ending, dd_evidence, dd_is_evidence, dd_first_with, dd_least_endless, dd_greatest_to, dd_most_within, dd_is_enough, dd_least_extra]
def fn1 : List He5.DefA := [dd__law_begun, dd__law_mixed, dd__law_take, dd__law_pick, dd__law_parts, dd__law_planned, dd__law_sum_drawn, dd__law_paid_sum, dd__law_one_right, dd_law]
def fn : List He5.DefA := fn0 ++ fn1
def fa0 : List He.Fa := [.glo "is_number", .glo "is_number_in", .glo "is_list", .glo "Plan", .glo "need_plan", .glo "need_balance", .glo "month_with", .glo "month", .glo "row_with", .glo "ending", .glo "evidence", .glo "is_evidence", .glo "first_with", .glo "least_endless", .glo "greatest_to", .glo "most_within", .glo "is_enough", .glo "least_extra", .glo "_law_begun", .glo "_law_mixed"]
def fa1 : List He.Fa := [.glo "_law_take", .glo "_law_pick", .glo "_law_parts", .glo "_law_planned", .glo "_law_sum_drawn", .glo "_law_paid_sum", .glo "_law_one_right", .glo "law", .free "bool", .free "len", .free "min", .free "max", .free "sum", .free "sorted", .free "all", .free "isinstance", .free "list", .free "tuple", .free "int", .free "str"]
def fa2 : List He.Fa := [.free "range", .free "property", .int "THOUSAND" 1000, .int "MOST_LEAST" 1000000, .int "MOST_BALANCE" 100000, .int "MOST_MONTHS" 100, .str "ENDS" "ends", .str "NEVER" "never", .cls "Plan", .mkr "Plan", .noat "Plan" "l_parts"]
def fa : List He.Fa := fa0 ++ fa1 ++ fa2
def ex0 : List (PySem.W.Frag → Bool) := [insB "Plan", propB "Plan" "rate", propB "Plan" "share"]
def ex : List (PySem.W.Frag → Bool) := ex0
def loose0 : List PySem.Str := ["CreditError", "BadNumber", "BadPlan", "is_number", "is_number_in", "is_list", "THOUSAND", "MOST_LEAST", "MOST_BALANCE", "MOST_MONTHS", "ENDS", "NEVER", "Plan", "need_plan", "need_balance", "month_with", "month", "row_with", "ending", "evidence"]
def loose1 : List PySem.Str := ["is_evidence", "first_with", "least_endless", "greatest_to", "most_within", "is_enough", "least_extra", "_law_begun", "_law_mixed", "_law_take", "_law_pick", "_law_parts", "_law_planned", "_law_sum_drawn", "_law_paid_sum", "_law_one_right"]
def loose : List PySem.Str := loose0 ++ loose1
abbrev TX := Tx fa fn ex
section
variable {K : PySem.W.Frag} {mg : Str → Option Value} {base : Heap}
theorem TX.g_is_number (T : TX K mg base) : mg "is_number" = some (.ref (He.ga K "is_number")) := He.glo_ok T.kin T.ns (T.says.fact 0 (f := .glo "is_number") rfl)
theorem TX.g_is_number_in (T : TX K mg base) : mg "is_number_in" = some (.ref (He.ga K "is_number_in")) := He.glo_ok T.kin T.ns (T.says.fact 1 (f := .glo "is_number_in") rfl)
theorem TX.g_is_list (T : TX K mg base) : mg "is_list" = some (.ref (He.ga K "is_list")) := He.glo_ok T.kin T.ns (T.says.fact 2 (f := .glo "is_list") rfl)
theorem TX.g_Plan (T : TX K mg base) : mg "Plan" = some (.ref (He.ga K "Plan")) := He.glo_ok T.kin T.ns (T.says.fact 3 (f := .glo "Plan") rfl)
theorem TX.g_need_plan (T : TX K mg base) : mg "need_plan" = some (.ref (He.ga K "need_plan")) := He.glo_ok T.kin T.ns (T.says.fact 4 (f := .glo "need_plan") rfl)
theorem TX.g_need_balance (T : TX K mg base) : mg "need_balance" = some (.ref (He.ga K "need_balance")) := He.glo_ok T.kin T.ns (T.says.fact 5 (f := .glo "need_balance") rfl)
theorem TX.g_month_with (T : TX K mg base) : mg "month_with" = some (.ref (He.ga K "month_with")) := He.glo_ok T.kin T.ns (T.says.fact 6 (f := .glo "month_with") rfl)
theorem TX.g_month (T : TX K mg base) : mg "month" = some (.ref (He.ga K "month")) := He.glo_ok T.kin T.ns (T.says.fact 7 (f := .glo "month") rfl)
theorem TX.g_row_with (T : TX K mg base) : mg "row_with" = some (.ref (He.ga K "row_with")) := He.glo_ok T.kin T.ns (T.says.fact 8 (f := .glo "row_with") rfl)
theorem TX.g_ending (T : TX K mg base) : mg "ending" = some (.ref (He.ga K "ending")) := He.glo_ok T.kin T.ns (T.says.fact 9 (f := .glo "ending") rfl)
theorem TX.g_evidence (T : TX K mg base) : mg "evidence" = some (.ref (He.ga K "evidence")) := He.glo_ok T.kin T.ns (T.says.fact 10 (f := .glo "evidence") rfl)
theorem TX.g_is_evidence (T : TX K mg base) : mg "is_evidence" = some (.ref (He.ga K "is_evidence")) := He.glo_ok T.kin T.ns (T.says.fact 11 (f := .glo "is_evidence") rfl)
theorem TX.g_first_with (T : TX K mg base) : mg "first_with" = some (.ref (He.ga K "first_with")) := He.glo_ok T.kin T.ns (T.says.fact 12 (f := .glo "first_with") rfl)
theorem TX.g_least_endless (T : TX K mg base) : mg "least_endless" = some (.ref (He.ga K "least_endless")) := He.glo_ok T.kin T.ns (T.says.fact 13 (f := .glo "least_endless") rfl)
theorem TX.g_greatest_to (T : TX K mg base) : mg "greatest_to" = some (.ref (He.ga K "greatest_to")) := He.glo_ok T.kin T.ns (T.says.fact 14 (f := .glo "greatest_to") rfl)
theorem TX.g_most_within (T : TX K mg base) : mg "most_within" = some (.ref (He.ga K "most_within")) := He.glo_ok T.kin T.ns (T.says.fact 15 (f := .glo "most_within") rfl)
theorem TX.g_is_enough (T : TX K mg base) : mg "is_enough" = some (.ref (He.ga K "is_enough")) := He.glo_ok T.kin T.ns (T.says.fact 16 (f := .glo "is_enough") rfl)
theorem TX.g_least_extra (T : TX K mg base) : mg "least_extra" = some (.ref (He.ga K "least_extra")) := He.glo_ok T.kin T.ns (T.says.fact 17 (f := .glo "least_extra") rfl)
theorem TX.g__law_begun (T : TX K mg base) : mg "_law_begun" = some (.ref (He.ga K "_law_begun")) := He.glo_ok T.kin T.ns (T.says.fact 18 (f := .glo "_law_begun") rfl)
theorem TX.g__law_mixed (T : TX K mg base) : mg "_law_mixed" = some (.ref (He.ga K "_law_mixed")) := He.glo_ok T.kin T.ns (T.says.fact 19 (f := .glo "_law_mixed") rfl)
theorem TX.g__law_take (T : TX K mg base) : mg "_law_take" = some (.ref (He.ga K "_law_take")) := He.glo_ok T.kin T.ns (T.says.fact 20 (f := .glo "_law_take") rfl)
theorem TX.g__law_pick (T : TX K mg base) : mg "_law_pick" = some (.ref (He.ga K "_law_pick")) := He.glo_ok T.kin T.ns (T.says.fact 21 (f := .glo "_law_pick") rfl)
theorem TX.g__law_parts (T : TX K mg base) : mg "_law_parts" = some (.ref (He.ga K "_law_parts")) := He.glo_ok T.kin T.ns (T.says.fact 22 (f := .glo "_law_parts") rfl)
theorem TX.g__law_planned (T : TX K mg base) : mg "_law_planned" = some (.ref (He.ga K "_law_planned")) := He.glo_ok T.kin T.ns (T.says.fact 23 (f := .glo "_law_planned") rfl)
theorem TX.g__law_sum_drawn (T : TX K mg base) : mg "_law_sum_drawn" = some (.ref (He.ga K "_law_sum_drawn")) := He.glo_ok T.kin T.ns (T.says.fact 24 (f := .glo "_law_sum_drawn") rfl)
theorem TX.g__law_paid_sum (T : TX K mg base) : mg "_law_paid_sum" = some (.ref (He.ga K "_law_paid_sum")) := He.glo_ok T.kin T.ns (T.says.fact 25 (f := .glo "_law_paid_sum") rfl)
theorem TX.g__law_one_right (T : TX K mg base) : mg "_law_one_right" = some (.ref (He.ga K "_law_one_right")) := He.glo_ok T.kin T.ns (T.says.fact 26 (f := .glo "_law_one_right") rfl)
theorem TX.g_law (T : TX K mg base) : mg "law" = some (.ref (He.ga K "law")) := He.glo_ok T.kin T.ns (T.says.fact 27 (f := .glo "law") rfl)
theorem TX.b_bool (T : TX K mg base) : mg "bool" = none := He.free_ok T.kin T.ns (T.says.fact 28 (f := .free "bool") rfl)
theorem TX.b_len (T : TX K mg base) : mg "len" = none := He.free_ok T.kin T.ns (T.says.fact 29 (f := .free "len") rfl)
theorem TX.b_min (T : TX K mg base) : mg "min" = none := He.free_ok T.kin T.ns (T.says.fact 30 (f := .free "min") rfl)
theorem TX.b_max (T : TX K mg base) : mg "max" = none := He.free_ok T.kin T.ns (T.says.fact 31 (f := .free "max") rfl)
theorem TX.b_sum (T : TX K mg base) : mg "sum" = none := He.free_ok T.kin T.ns (T.says.fact 32 (f := .free "sum") rfl)
theorem TX.b_sorted (T : TX K mg base) : mg "sorted" = none := He.free_ok T.kin T.ns (T.says.fact 33 (f := .free "sorted") rfl)
theorem TX.b_all (T : TX K mg base) : mg "all" = none := He.free_ok T.kin T.ns (T.says.fact 34 (f := .free "all") rfl)
theorem TX.b_isinstance (T : TX K mg base) : mg "isinstance" = none := He.free_ok T.kin T.ns (T.says.fact 35 (f := .free "isinstance") rfl)
theorem TX.b_list (T : TX K mg base) : mg "list" = none := He.free_ok T.kin T.ns (T.says.fact 36 (f := .free "list") rfl)
theorem TX.b_tuple (T : TX K mg base) : mg "tuple" = none := He.free_ok T.kin T.ns (T.says.fact 37 (f := .free "tuple") rfl)
theorem TX.b_int (T : TX K mg base) : mg "int" = none := He.free_ok T.kin T.ns (T.says.fact 38 (f := .free "int") rfl)
theorem TX.b_str (T : TX K mg base) : mg "str" = none := He.free_ok T.kin T.ns (T.says.fact 39 (f := .free "str") rfl)
theorem TX.b_range (T : TX K mg base) : mg "range" = none := He.free_ok T.kin T.ns (T.says.fact 40 (f := .free "range") rfl)
theorem TX.b_property (T : TX K mg base) : mg "property" = none := He.free_ok T.kin T.ns (T.says.fact 41 (f := .free "property") rfl)
theorem TX.k_THOUSAND (T : TX K mg base) : ∃ t, mg "THOUSAND" = some (.int 1000 t) := He.int_ok T.kin T.ns (T.says.fact 42 (f := .int "THOUSAND" 1000) rfl)
theorem TX.k_MOST_LEAST (T : TX K mg base) : ∃ t, mg "MOST_LEAST" = some (.int 1000000 t) := He.int_ok T.kin T.ns (T.says.fact 43 (f := .int "MOST_LEAST" 1000000) rfl)
theorem TX.k_MOST_BALANCE (T : TX K mg base) : ∃ t, mg "MOST_BALANCE" = some (.int 100000 t) := He.int_ok T.kin T.ns (T.says.fact 44 (f := .int "MOST_BALANCE" 100000) rfl)
theorem TX.k_MOST_MONTHS (T : TX K mg base) : ∃ t, mg "MOST_MONTHS" = some (.int 100 t) := He.int_ok T.kin T.ns (T.says.fact 45 (f := .int "MOST_MONTHS" 100) rfl)
theorem TX.k_ENDS (T : TX K mg base) : ∃ t, mg "ENDS" = some (.str "ends" t) := He.str_ok T.kin T.ns (T.says.fact 46 (f := .str "ENDS" "ends") rfl)
theorem TX.k_NEVER (T : TX K mg base) : ∃ t, mg "NEVER" = some (.str "never" t) := He.str_ok T.kin T.ns (T.says.fact 47 (f := .str "NEVER" "never") rfl)
theorem TX.c_Plan (T : TX K mg base) : Cls K (He.ga K "Plan") := He.cls_ok (T.says.fact 48 (f := .cls "Plan") rfl)
theorem TX.mk_Plan (T : TX K mg base) : Mk K (He.ga K "Plan") (He.ma K (He.ga K "Plan") "__init__") := He.mkr_ok (T.says.fact 49 (f := .mkr "Plan") rfl)
theorem TX.in_Plan (T : TX K mg base) : C8.InsC K (He.ga K "Plan") := insB_ok (T.c_Plan) (T.says.xb 0 rfl)
theorem TX.n_Plan_l_parts (T : TX K mg base) : NoAttr K (He.ga K "Plan") "l_parts" := He.noat_ok (T.says.fact 50 (f := .noat "Plan" "l_parts") rfl)
theorem TX.p_Plan_rate (T : TX K mg base) : PropOf K (He.ga K "Plan") "rate" (He.ma K (He.ga K "Plan") "rate") (pgA "Plan" "rate" K) := propB_ok (T.says.xb 1 rfl)
theorem TX.p_Plan_share (T : TX K mg base) : PropOf K (He.ga K "Plan") "share" (He.ma K (He.ga K "Plan") "share") (pgA "Plan" "share" K) := propB_ok (T.says.xb 2 rfl)
theorem TX.d_is_number (T : TX K mg base) : ∃ fd, FunD K dd_is_number.name dd_is_number.qual dd_is_number.params dd_is_number.body dd_is_number.scope (dd_is_number.dvs K) (dd_is_number.kws K) (dd_is_number.at_ K) fd := T.says.def_ 0 rfl
theorem TX.d_is_number_in (T : TX K mg base) : ∃ fd, FunD K dd_is_number_in.name dd_is_number_in.qual dd_is_number_in.params dd_is_number_in.body dd_is_number_in.scope (dd_is_number_in.dvs K) (dd_is_number_in.kws K) (dd_is_number_in.at_ K) fd := T.says.def_ 1 rfl
theorem TX.d_is_list (T : TX K mg base) : ∃ fd, FunD K dd_is_list.name dd_is_list.qual dd_is_list.params dd_is_list.body dd_is_list.scope (dd_is_list.dvs K) (dd_is_list.kws K) (dd_is_list.at_ K) fd := T.says.def_ 2 rfl
theorem TX.d_Plan_D___init__ (T : TX K mg base) : ∃ fd, FunD K dd_Plan_D___init__.name dd_Plan_D___init__.qual dd_Plan_D___init__.params dd_Plan_D___init__.body dd_Plan_D___init__.scope (dd_Plan_D___init__.dvs K) (dd_Plan_D___init__.kws K) (dd_Plan_D___init__.at_ K) fd := T.says.def_ 3 rfl
theorem TX.d_Plan_D_rate (T : TX K mg base) : ∃ fd, FunD K dd_Plan_D_rate.name dd_Plan_D_rate.qual dd_Plan_D_rate.params dd_Plan_D_rate.body dd_Plan_D_rate.scope (dd_Plan_D_rate.dvs K) (dd_Plan_D_rate.kws K) (dd_Plan_D_rate.at_ K) fd := T.says.def_ 4 rfl
theorem TX.d_Plan_D_share (T : TX K mg base) : ∃ fd, FunD K dd_Plan_D_share.name dd_Plan_D_share.qual dd_Plan_D_share.params dd_Plan_D_share.body dd_Plan_D_share.scope (dd_Plan_D_share.dvs K) (dd_Plan_D_share.kws K) (dd_Plan_D_share.at_ K) fd := T.says.def_ 5 rfl
theorem TX.d_need_plan (T : TX K mg base) : ∃ fd, FunD K dd_need_plan.name dd_need_plan.qual dd_need_plan.params dd_need_plan.body dd_need_plan.scope (dd_need_plan.dvs K) (dd_need_plan.kws K) (dd_need_plan.at_ K) fd := T.says.def_ 6 rfl
theorem TX.d_need_balance (T : TX K mg base) : ∃ fd, FunD K dd_need_balance.name dd_need_balance.qual dd_need_balance.params dd_need_balance.body dd_need_balance.scope (dd_need_balance.dvs K) (dd_need_balance.kws K) (dd_need_balance.at_ K) fd := T.says.def_ 7 rfl
theorem TX.d_month_with (T : TX K mg base) : ∃ fd, FunD K dd_month_with.name dd_month_with.qual dd_month_with.params dd_month_with.body dd_month_with.scope (dd_month_with.dvs K) (dd_month_with.kws K) (dd_month_with.at_ K) fd := T.says.def_ 8 rfl
theorem TX.d_month (T : TX K mg base) : ∃ fd, FunD K dd_month.name dd_month.qual dd_month.params dd_month.body dd_month.scope (dd_month.dvs K) (dd_month.kws K) (dd_month.at_ K) fd := T.says.def_ 9 rfl
theorem TX.d_row_with (T : TX K mg base) : ∃ fd, FunD K dd_row_with.name dd_row_with.qual dd_row_with.params dd_row_with.body dd_row_with.scope (dd_row_with.dvs K) (dd_row_with.kws K) (dd_row_with.at_ K) fd := T.says.def_ 10 rfl
theorem TX.d_ending (T : TX K mg base) : ∃ fd, FunD K dd_ending.name dd_ending.qual dd_ending.params dd_ending.body dd_ending.scope (dd_ending.dvs K) (dd_ending.kws K) (dd_ending.at_ K) fd := T.says.def_ 11 rfl
theorem TX.d_evidence (T : TX K mg base) : ∃ fd, FunD K dd_evidence.name dd_evidence.qual dd_evidence.params dd_evidence.body dd_evidence.scope (dd_evidence.dvs K) (dd_evidence.kws K) (dd_evidence.at_ K) fd := T.says.def_ 12 rfl
theorem TX.d_is_evidence (T : TX K mg base) : ∃ fd, FunD K dd_is_evidence.name dd_is_evidence.qual dd_is_evidence.params dd_is_evidence.body dd_is_evidence.scope (dd_is_evidence.dvs K) (dd_is_evidence.kws K) (dd_is_evidence.at_ K) fd := T.says.def_ 13 rfl
theorem TX.d_first_with (T : TX K mg base) : ∃ fd, FunD K dd_first_with.name dd_first_with.qual dd_first_with.params dd_first_with.body dd_first_with.scope (dd_first_with.dvs K) (dd_first_with.kws K) (dd_first_with.at_ K) fd := T.says.def_ 14 rfl
theorem TX.d_least_endless (T : TX K mg base) : ∃ fd, FunD K dd_least_endless.name dd_least_endless.qual dd_least_endless.params dd_least_endless.body dd_least_endless.scope (dd_least_endless.dvs K) (dd_least_endless.kws K) (dd_least_endless.at_ K) fd := T.says.def_ 15 rfl
theorem TX.d_greatest_to (T : TX K mg base) : ∃ fd, FunD K dd_greatest_to.name dd_greatest_to.qual dd_greatest_to.params dd_greatest_to.body dd_greatest_to.scope (dd_greatest_to.dvs K) (dd_greatest_to.kws K) (dd_greatest_to.at_ K) fd := T.says.def_ 16 rfl
theorem TX.d_most_within (T : TX K mg base) : ∃ fd, FunD K dd_most_within.name dd_most_within.qual dd_most_within.params dd_most_within.body dd_most_within.scope (dd_most_within.dvs K) (dd_most_within.kws K) (dd_most_within.at_ K) fd := T.says.def_ 17 rfl
theorem TX.d_is_enough (T : TX K mg base) : ∃ fd, FunD K dd_is_enough.name dd_is_enough.qual dd_is_enough.params dd_is_enough.body dd_is_enough.scope (dd_is_enough.dvs K) (dd_is_enough.kws K) (dd_is_enough.at_ K) fd := T.says.def_ 18 rfl
theorem TX.d_least_extra (T : TX K mg base) : ∃ fd, FunD K dd_least_extra.name dd_least_extra.qual dd_least_extra.params dd_least_extra.body dd_least_extra.scope (dd_least_extra.dvs K) (dd_least_extra.kws K) (dd_least_extra.at_ K) fd := T.says.def_ 19 rfl
theorem TX.d__law_begun (T : TX K mg base) : ∃ fd, FunD K dd__law_begun.name dd__law_begun.qual dd__law_begun.params dd__law_begun.body dd__law_begun.scope (dd__law_begun.dvs K) (dd__law_begun.kws K) (dd__law_begun.at_ K) fd := T.says.def_ 20 rfl
theorem TX.d__law_mixed (T : TX K mg base) : ∃ fd, FunD K dd__law_mixed.name dd__law_mixed.qual dd__law_mixed.params dd__law_mixed.body dd__law_mixed.scope (dd__law_mixed.dvs K) (dd__law_mixed.kws K) (dd__law_mixed.at_ K) fd := T.says.def_ 21 rfl
theorem TX.d__law_take (T : TX K mg base) : ∃ fd, FunD K dd__law_take.name dd__law_take.qual dd__law_take.params dd__law_take.body dd__law_take.scope (dd__law_take.dvs K) (dd__law_take.kws K) (dd__law_take.at_ K) fd := T.says.def_ 22 rfl
theorem TX.d__law_pick (T : TX K mg base) : ∃ fd, FunD K dd__law_pick.name dd__law_pick.qual dd__law_pick.params dd__law_pick.body dd__law_pick.scope (dd__law_pick.dvs K) (dd__law_pick.kws K) (dd__law_pick.at_ K) fd := T.says.def_ 23 rfl
theorem TX.d__law_parts (T : TX K mg base) : ∃ fd, FunD K dd__law_parts.name dd__law_parts.qual dd__law_parts.params dd__law_parts.body dd__law_parts.scope (dd__law_parts.dvs K) (dd__law_parts.kws K) (dd__law_parts.at_ K) fd := T.says.def_ 24 rfl
theorem TX.d__law_planned (T : TX K mg base) : ∃ fd, FunD K dd__law_planned.name dd__law_planned.qual dd__law_planned.params dd__law_planned.body dd__law_planned.scope (dd__law_planned.dvs K) (dd__law_planned.kws K) (dd__law_planned.at_ K) fd := T.says.def_ 25 rfl
theorem TX.d__law_sum_drawn (T : TX K mg base) : ∃ fd, FunD K dd__law_sum_drawn.name dd__law_sum_drawn.qual dd__law_sum_drawn.params dd__law_sum_drawn.body dd__law_sum_drawn.scope (dd__law_sum_drawn.dvs K) (dd__law_sum_drawn.kws K) (dd__law_sum_drawn.at_ K) fd := T.says.def_ 26 rfl
theorem TX.d__law_paid_sum (T : TX K mg base) : ∃ fd, FunD K dd__law_paid_sum.name dd__law_paid_sum.qual dd__law_paid_sum.params dd__law_paid_sum.body dd__law_paid_sum.scope (dd__law_paid_sum.dvs K) (dd__law_paid_sum.kws K) (dd__law_paid_sum.at_ K) fd := T.says.def_ 27 rfl
theorem TX.d__law_one_right (T : TX K mg base) : ∃ fd, FunD K dd__law_one_right.name dd__law_one_right.qual dd__law_one_right.params dd__law_one_right.body dd__law_one_right.scope (dd__law_one_right.dvs K) (dd__law_one_right.kws K) (dd__law_one_right.at_ K) fd := T.says.def_ 28 rfl
theorem TX.d_law (T : TX K mg base) : ∃ fd, FunD K dd_law.name dd_law.qual dd_law.params dd_law.body dd_law.scope (dd_law.dvs K) (dd_law.kws K) (dd_law.at_ K) fd := T.says.def_ 29 rfl
theorem sc_is_number : FnScope ["value"] ["value"] (defScope sd_is_number) := ⟨rfl, rfl, rfl, by decide +kernel, rfl, by decide +kernel, by decide +kernel⟩
theorem sc_is_number_in : FnScope ["value", "least", "most"] ["value", "least", "most"] (defScope sd_is_number_in) := ⟨rfl, rfl, rfl, by decide +kernel, rfl, by decide +kernel, by decide +kernel⟩
theorem sc_is_list : FnScope ["value"] ["value"] (defScope sd_is_list) := ⟨rfl, rfl, rfl, by decide +kernel, rfl, by decide +kernel, by decide +kernel⟩
theorem sc_Plan_D___init__ : FnScope ["self", "rate", "share", "least", "plus"] ["self", "rate", "share", "least", "plus"] (defScope sd_Plan_D___init__) := ⟨rfl, rfl, rfl, by decide +kernel, rfl, by decide +kernel, by decide +kernel⟩
theorem sc_Plan_D_rate : FnScope ["self"] ["self"] (defScope sd_Plan_D_rate) := ⟨rfl, rfl, rfl, by decide +kernel, rfl, by decide +kernel, by decide +kernel⟩
theorem sc_Plan_D_share : FnScope ["self"] ["self"] (defScope sd_Plan_D_share) := ⟨rfl, rfl, rfl, by decide +kernel, rfl, by decide +kernel, by decide +kernel⟩
theorem sc_need_plan : FnScope ["value"] ["value"] (defScope sd_need_plan) := ⟨rfl, rfl, rfl, by decide +kernel, rfl, by decide +kernel, by decide +kernel⟩
theorem sc_need_balance : FnScope ["plan", "balance"] ["plan", "balance"] (defScope sd_need_balance) := ⟨rfl, rfl, rfl, by decide +kernel, rfl, by decide +kernel, by decide +kernel⟩
theorem sc_month_with : FnScope ["plan", "balance", "extra", "rate", "share", "least", "plus", "interest", "owed", "wanted", "payment"] ["plan", "balance", "extra"] (defScope sd_month_with) := ⟨rfl, rfl, rfl, by decide +kernel, rfl, by decide +kernel, by decide +kernel⟩
theorem sc_month : FnScope ["plan", "balance"] ["plan", "balance"] (defScope sd_month) := ⟨rfl, rfl, rfl, by decide +kernel, rfl, by decide +kernel, by decide +kernel⟩
theorem sc_row_with : FnScope ["plan", "balance", "extra", "found", "later"] ["plan", "balance", "extra"] (defScope sd_row_with) := ⟨rfl, rfl, rfl, by decide +kernel, rfl, by decide +kernel, by decide +kernel⟩
theorem sc_ending : FnScope ["plan", "balance", "row", "one"] ["plan", "balance"] (defScope sd_ending) := ⟨rfl, rfl, rfl, by decide +kernel, rfl, by decide +kernel, by decide +kernel⟩
theorem sc_evidence : FnScope ["plan", "balance", "row"] ["plan", "balance"] (defScope sd_evidence) := ⟨rfl, rfl, rfl, by decide +kernel, rfl, by decide +kernel, by decide +kernel⟩
theorem sc_is_evidence : FnScope ["plan", "balance", "value", "row", "one"] ["plan", "balance", "value"] (defScope sd_is_evidence) := ⟨rfl, rfl, rfl, by decide +kernel, rfl, by decide +kernel, by decide +kernel⟩
theorem sc_first_with : FnScope ["plan", "interest"] ["plan", "interest"] (defScope sd_first_with) := ⟨rfl, rfl, rfl, by decide +kernel, rfl, by decide +kernel, by decide +kernel⟩
theorem sc_least_endless : FnScope ["plan", "rate", "share", "least", "plus", "balance", "over", "interest"] ["plan"] (defScope sd_least_endless) := ⟨rfl, rfl, rfl, by decide +kernel, rfl, by decide +kernel, by decide +kernel⟩
theorem sc_greatest_to : FnScope ["plan", "bound", "low", "high", "middle"] ["plan", "bound"] (defScope sd_greatest_to) := ⟨rfl, rfl, rfl, by decide +kernel, rfl, by decide +kernel, by decide +kernel⟩
theorem sc_most_within : FnScope ["plan", "months", "found", "turn"] ["plan", "months"] (defScope sd_most_within) := ⟨rfl, rfl, rfl, by decide +kernel, rfl, by decide +kernel, by decide +kernel⟩
theorem sc_is_enough : FnScope ["plan", "balance", "months", "extra", "row"] ["plan", "balance", "months", "extra"] (defScope sd_is_enough) := ⟨rfl, rfl, rfl, by decide +kernel, rfl, by decide +kernel, by decide +kernel⟩
theorem sc_least_extra : FnScope ["plan", "balance", "months", "low", "high", "middle"] ["plan", "balance", "months"] (defScope sd_least_extra) := ⟨rfl, rfl, rfl, by decide +kernel, rfl, by decide +kernel, by decide +kernel⟩
theorem sc__law_begun : FnScope ["_law_script", "_law_large", "_law_cell"] ["_law_script"] (defScope sd__law_begun) := ⟨rfl, rfl, rfl, by decide +kernel, rfl, by decide +kernel, by decide +kernel⟩
theorem sc__law_mixed : FnScope ["_law_state", "_law_found", "_law_prime", "_law_blend", "_law_cell"] ["_law_state"] (defScope sd__law_mixed) := ⟨rfl, rfl, rfl, by decide +kernel, rfl, by decide +kernel, by decide +kernel⟩
theorem sc__law_take : FnScope ["_law_state", "_law_size", "_law_found"] ["_law_state", "_law_size"] (defScope sd__law_take) := ⟨rfl, rfl, rfl, by decide +kernel, rfl, by decide +kernel, by decide +kernel⟩
theorem sc__law_pick : FnScope ["_law_state", "_law_some"] ["_law_state", "_law_some"] (defScope sd__law_pick) := ⟨rfl, rfl, rfl, by decide +kernel, rfl, by decide +kernel, by decide +kernel⟩
theorem sc__law_parts : FnScope ["_law_state", "_law_rated", "_law_part", "_law_low"] ["_law_state"] (defScope sd__law_parts) := ⟨rfl, rfl, rfl, by decide +kernel, rfl, by decide +kernel, by decide +kernel⟩
theorem sc__law_planned : FnScope ["_law_parts_here"] ["_law_parts_here"] (defScope sd__law_planned) := ⟨rfl, rfl, rfl, by decide +kernel, rfl, by decide +kernel, by decide +kernel⟩
theorem sc__law_sum_drawn : FnScope ["_law_state", "_law_parts_here", "_law_near", "_law_some"] ["_law_state", "_law_parts_here"] (defScope sd__law_sum_drawn) := ⟨rfl, rfl, rfl, by decide +kernel, rfl, by decide +kernel, by decide +kernel⟩
theorem sc__law_paid_sum : FnScope ["_law_made", "_law_row", "_law_left"] ["_law_made", "_law_row"] (defScope sd__law_paid_sum) := ⟨rfl, rfl, rfl, by decide +kernel, rfl, by decide +kernel, by decide +kernel⟩
theorem sc__law_one_right : FnScope ["_law_made", "_law_sum_here", "_law_bound", "_law_found", "_law_shown_here", "_law_less"] ["_law_made", "_law_sum_here", "_law_bound"] (defScope sd__law_one_right) := ⟨rfl, rfl, rfl, by decide +kernel, rfl, by decide +kernel, by decide +kernel⟩
theorem sc_law : FnScope ["_law_script", "_law_state", "_law_turn", "_law_parts_here", "_law_made", "_law_bound", "_law_lap", "_law_pair", "_law_found", "_law_months_here", "_law_most", "_law_is_in", "_law_left"] ["_law_script"] (defScope sd_law) := ⟨rfl, rfl, rfl, by decide +kernel, rfl, by decide +kernel, by decide +kernel⟩
end
/-! ### the run of the top -/
abbrev R : PySem.W.OpenRow := PySem.W.OpenLaw.row PySem.Challenge.rw_wholepaid_k78_whole_least_payments
abbrev hk : PySem.W.Hook := hookM 5 fa fn ex
def ob (s : PySem.W.SharedT) : He.AlD := obsMG 5 fa fn ex (HandSHeadRun.getT s)
theorem ob_eq (s : PySem.W.SharedT) : ob s = hk.obs s.abs := obsMG_eq (HandSHeadRun.getT_eq s)
theorem run (w : World) : HandSHeadRun.RunEq R (PySem.W.view R.prog [40]) hk ob 6000 loose w := by
  intro os
  kernel_rfl
end Pr
/-! # Plans of least payments: the mathematics, no program in sight. -/
namespace M78
structure Pl where
  rate : Int
  share : Int
  least : Int
  plus : Bool
structure Pl.Ok (p : Pl) : Prop where
  r0 : 0 ≤ p.rate
  r1 : p.rate ≤ 1000
  s0 : 0 ≤ p.share
  s1 : p.share ≤ 1000
  l0 : 1 ≤ p.least
  l1 : p.least ≤ 1000000
def Pl.inter (p : Pl) (b : Int) : Int := b * p.rate / 1000
def Pl.owed (p : Pl) (b : Int) : Int := b + p.inter b
def Pl.want (p : Pl) (b : Int) : Int := if p.plus = true then p.inter b + b * p.share / 1000 else p.owed b * p.share / 1000
def Pl.pay (p : Pl) (e b : Int) : Int := if p.owed b ≤ p.least then p.owed b else min (p.owed b) (max p.least (p.want b) + e)
def Pl.nxt (p : Pl) (e b : Int) : Int := if p.owed b ≤ p.least then 0 else p.owed b - min (p.owed b) (max p.least (p.want b) + e)
theorem nxt_eq {p : Pl} {e b : Int} (he : 0 ≤ e) : p.nxt e b = max 0 (min (p.owed b - p.least) (p.owed b - p.want b) - e) := by
  unfold Pl.nxt
  split <;> omega
theorem pay_eq {p : Pl} {e b : Int} : p.pay e b = p.owed b - p.nxt e b := by
  unfold Pl.nxt Pl.pay
  split <;> omega
theorem div_mono {a b : Int} (h : a ≤ b) : a / 1000 ≤ b / 1000 := Int.ediv_le_ediv (by decide) h
theorem share_step {a b s : Int} (h : a ≤ b) (h0 : 0 ≤ s) (h1 : s ≤ 1000) : b * s / 1000 - a * s / 1000 ≤ b - a := by
  have e : b * s ≤ a * s + (b - a) * 1000 := by
    have z : (b - a) * s ≤ (b - a) * 1000 := Int.mul_le_mul_of_nonneg_left h1 (by omega)
    have z2 : b * s = a * s + (b - a) * s := by rw [← Int.add_mul]; congr 1; omega
    omega
  have e2 := div_mono e
  rw [Int.add_mul_ediv_right _ _ (by decide)] at e2
  omega
theorem mul_mono {a b s : Int} (h : a ≤ b) (h0 : 0 ≤ s) : a * s ≤ b * s := Int.mul_le_mul_of_nonneg_right h h0
theorem inter_mono {p : Pl} (ok : p.Ok) {a b : Int} (h : a ≤ b) : p.inter a ≤ p.inter b := div_mono (mul_mono h ok.r0)
theorem inter_nn {p : Pl} (ok : p.Ok) {a : Int} (h : 0 ≤ a) : 0 ≤ p.inter a := Int.ediv_nonneg (Int.mul_nonneg h ok.r0) (by decide)
theorem inter_0 {p : Pl} : p.inter 0 = 0 := by unfold Pl.inter; simp
theorem owed_mono {p : Pl} (ok : p.Ok) {a b : Int} (h : a ≤ b) : p.owed a ≤ p.owed b := by
  have := inter_mono ok h
  unfold Pl.owed; omega
theorem rest_mono {p : Pl} (ok : p.Ok) {a b : Int} (h : a ≤ b) : p.owed a - p.want a ≤ p.owed b - p.want b := by
  unfold Pl.want
  by_cases hp : p.plus = true
  · rw [if_pos hp, if_pos hp]
    have := share_step h ok.s0 ok.s1
    unfold Pl.owed; omega
  · rw [if_neg hp, if_neg hp]
    have := share_step (owed_mono ok h) ok.s0 ok.s1
    omega
theorem nxt_mono {p : Pl} (ok : p.Ok) {e a b : Int} (he : 0 ≤ e) (h : a ≤ b) : p.nxt e a ≤ p.nxt e b := by
  rw [nxt_eq he, nxt_eq he]
  have h1 := owed_mono ok h
  have h2 := rest_mono ok h
  omega
theorem nxt_nn {p : Pl} {e b : Int} (he : 0 ≤ e) : 0 ≤ p.nxt e b := by
  rw [nxt_eq he]; omega
theorem nxt_0 {p : Pl} (ok : p.Ok) {e : Int} : p.nxt e 0 = 0 := by
  have : p.owed 0 = 0 := by unfold Pl.owed; rw [inter_0]; omega
  unfold Pl.nxt
  rw [this, if_pos (by have := ok.l0; omega)]
/-- a balance far off has a next one far off -/
theorem nxt_far {p : Pl} (ok : p.Ok) (hs : p.share ≤ 999) {b x : Int} (hb : 0 ≤ b) (hx : 1000 * (b + 1) + p.least ≤ x) : b < p.nxt 0 x := by
  rw [nxt_eq (by decide)]
  have h0 : 0 ≤ x := by have := ok.l0; omega
  have hi := inter_nn ok h0
  have key : ∀ y : Int, 1000 * (b + 1) ≤ y → b + 1 ≤ y - y * p.share / 1000 := fun y hy => by
    have z : y * p.share ≤ y * 999 := Int.mul_le_mul_of_nonneg_left hs (by omega)
    have z2 := div_mono z
    omega
  have h1 : b + 1 ≤ p.owed x - p.want x := by
    unfold Pl.want
    by_cases hp : p.plus = true
    · rw [if_pos hp]
      have := key x (by have := ok.l0; omega)
      unfold Pl.owed; omega
    · rw [if_neg hp]
      exact key _ (by unfold Pl.owed; have := ok.l0; omega)
  have h2 : b + 1 ≤ p.owed x - p.least := by unfold Pl.owed; omega
  omega
theorem nxt_all {p : Pl} (ok : p.Ok) (hs : p.share = 1000) {x : Int} (hx : 0 ≤ x) : p.nxt 0 x = 0 := by
  rw [nxt_eq (by decide)]
  have hi := inter_nn ok hx
  have h1 : p.owed x - p.want x ≤ 0 := by
    unfold Pl.want
    by_cases hp : p.plus = true
    · rw [if_pos hp, hs, Int.mul_ediv_cancel _ (by decide)]
      unfold Pl.owed; omega
    · rw [if_neg hp, hs, Int.mul_ediv_cancel _ (by decide)]
      omega
  omega
/-! ### rows -/
def rowF (f : Int → Int) : Nat → Int → List Int
  | 0, b => [b]
  | n + 1, b => if 0 < b then (if b ≤ f b then [b] else b :: rowF f n (f b)) else [b]
@[irreducible] def row (f : Int → Int) (b : Int) : List Int := rowF f b.toNat b
theorem rowF_enough {f : Int → Int} (hf : ∀ x, 0 ≤ f x) : ∀ (n m : Nat) (b : Int), b.toNat ≤ n → b.toNat ≤ m → rowF f n b = rowF f m b
  | 0, 0, _, _, _ => rfl
  | 0, m + 1, b, h, _ => by
    show [b] = if 0 < b then _ else [b]
    rw [if_neg (by omega)]
  | n + 1, 0, b, _, h => by
    show (if 0 < b then _ else [b]) = [b]
    rw [if_neg (by omega)]
  | n + 1, m + 1, b, h1, h2 => by
    show (if 0 < b then (if b ≤ f b then [b] else b :: rowF f n (f b)) else [b]) = if 0 < b then (if b ≤ f b then [b] else b :: rowF f m (f b)) else [b]
    by_cases hb : 0 < b
    · rw [if_pos hb, if_pos hb]
      by_cases hc : b ≤ f b
      · rw [if_pos hc, if_pos hc]
      · have := hf b
        rw [if_neg hc, if_neg hc, rowF_enough hf n m (f b) (by omega) (by omega)]
    · rw [if_neg hb, if_neg hb]
theorem row_eq {f : Int → Int} (hf : ∀ x, 0 ≤ f x) (b : Int) : row f b = if 0 < b then (if b ≤ f b then [b] else b :: row f (f b)) else [b] := by
  unfold row
  cases h : b.toNat with
  | zero =>
    show [b] = _
    rw [if_neg (by omega)]
  | succ n =>
    show (if 0 < b then (if b ≤ f b then [b] else b :: rowF f n (f b)) else [b]) = _
    by_cases hc : b ≤ f b
    · rw [if_pos hc, if_pos hc]
    · have := hf b
      rw [rowF_enough hf n (f b).toNat (f b) (by omega) (by omega)]
theorem row_stop {f : Int → Int} (hf : ∀ x, 0 ≤ f x) {b : Int} (h : b ≤ 0 ∨ b ≤ f b) : row f b = [b] := by
  rw [row_eq hf]
  by_cases h0 : 0 < b
  · rw [if_pos h0, if_pos (by omega)]
  · rw [if_neg h0]
theorem row_go {f : Int → Int} (hf : ∀ x, 0 ≤ f x) {b : Int} (h0 : 0 < b) (h : f b < b) : row f b = b :: row f (f b) := by
  rw [row_eq hf, if_pos h0, if_neg (by omega)]
theorem row_ne {f : Int → Int} (hf : ∀ x, 0 ≤ f x) (b : Int) : row f b ≠ [] := by
  rw [row_eq hf]
  split
  · split <;> simp
  · simp
/-- the last of a row -/
@[irreducible] def lst (f : Int → Int) (b : Int) : Int := (row f b).getLastD 0
theorem lst_stop {f : Int → Int} (hf : ∀ x, 0 ≤ f x) {b : Int} (h : b ≤ 0 ∨ b ≤ f b) : lst f b = b := by
  unfold lst; rw [row_stop hf h]; rfl
theorem lst_go {f : Int → Int} (hf : ∀ x, 0 ≤ f x) {b : Int} (h0 : 0 < b) (h : f b < b) : lst f b = lst f (f b) := by
  unfold lst; rw [row_go hf h0 h]
  cases e : row f (f b) with
  | nil => exact absurd e (row_ne hf _)
  | cons x r => simp [List.getLastD_cons]
/-- induction along a row -/
theorem row_ind {f : Int → Int} (hf : ∀ x, 0 ≤ f x) {P : Int → Prop} (stop : ∀ b, 0 ≤ b → (b ≤ 0 ∨ b ≤ f b) → P b) (go : ∀ b, 0 < b → f b < b → P (f b) → P b) : ∀ b, 0 ≤ b → P b := by
  have key : ∀ (n : Nat) (b : Int), 0 ≤ b → b.toNat ≤ n → P b := by
    intro n
    induction n with
    | zero => intro b h0 hb; exact stop b h0 (.inl (by omega))
    | succ n ih =>
      intro b h0 hb
      by_cases h1 : 0 < b
      · by_cases h2 : b ≤ f b
        · exact stop b h0 (.inr h2)
        · exact go b h1 (by omega) (ih (f b) (hf b) (by omega))
      · exact stop b h0 (.inl (by omega))
  exact fun b h => key b.toNat b h (Nat.le_refl _)
structure Nice (f : Int → Int) : Prop where
  nn : ∀ x, 0 ≤ f x
  mono : ∀ a b, a ≤ b → f a ≤ f b
  z : f 0 = 0
theorem nice {p : Pl} (ok : p.Ok) {e : Int} (he : 0 ≤ e) : Nice (p.nxt e) := ⟨fun _ => nxt_nn he, fun _ _ h => nxt_mono ok he h, nxt_0 ok⟩
section
variable {f : Int → Int} (N : Nice f)
include N
theorem lst_nn : ∀ b, 0 ≤ b → 0 ≤ lst f b := row_ind N.nn (fun b h0 h => by rw [lst_stop N.nn h]; exact h0) (fun b h0 h ih => by rw [lst_go N.nn h0 h]; exact ih)
theorem lst_le : ∀ b, 0 ≤ b → lst f b ≤ b := row_ind N.nn (fun b h0 h => by rw [lst_stop N.nn h]; omega) (fun b h0 h ih => by rw [lst_go N.nn h0 h]; omega)
/-- what does not end stands above its next one -/
theorem lst_pos : ∀ b, 0 ≤ b → 0 < lst f b → lst f b ≤ f (lst f b) := row_ind N.nn (fun b h0 h => by rw [lst_stop N.nn h]; omega) (fun b h0 h ih => by rw [lst_go N.nn h0 h]; exact ih)
/-- above what stands nothing ends -/
theorem lst_ge {x : Int} (hx : x ≤ f x) : ∀ b, 0 ≤ b → x ≤ b → x ≤ lst f b :=
  row_ind N.nn (fun b h0 h _ => by rw [lst_stop N.nn h]; assumption) (fun b h0 h ih hb => by
    rw [lst_go N.nn h0 h]
    exact ih (Int.le_trans hx (N.mono _ _ hb)))
theorem ends_iff {b : Int} (hb : 0 ≤ b) : lst f b = 0 ↔ ∀ x, 1 ≤ x → x ≤ b → f x < x := by
  constructor
  · intro h x h1 h2
    by_cases q : f x < x
    · exact q
    · have := lst_ge N (x := x) (by omega) b hb h2
      omega
  · intro h
    by_cases q : lst f b = 0
    · exact q
    · have h0 := lst_nn N b hb
      have h1 := lst_pos N b hb (by omega)
      have h2 := lst_le N b hb
      have := h (lst f b) (by omega) h2
      omega
theorem row_two {g : Int → Int} (hg : ∀ a b, 0 ≤ a → a ≤ b → g a ≤ g b) (g0 : 0 ≤ g 0) : ∀ b, 0 ≤ b → ∀ a, 0 ≤ a → a ≤ b → lst f b = 0 → lst f a = 0 ∧ (row f a).length ≤ (row f b).length ∧ ((row f a).map g).sum ≤ ((row f b).map g).sum := by
  refine row_ind N.nn (fun b h0 h a ha hab hl => ?_) (fun b h0 h ih a ha hab hl => ?_)
  · rw [lst_stop N.nn h] at hl
    subst hl
    have e : a = 0 := by omega
    subst e
    exact ⟨lst_stop N.nn (.inl (Int.le_refl _)), Nat.le_refl _, Int.le_refl _⟩
  · rw [lst_go N.nn h0 h] at hl
    by_cases a0 : 0 < a
    · have hall := (ends_iff N (b := b) (by omega)).mp (by rw [lst_go N.nn h0 h]; exact hl)
      have ha2 := hall a (by omega) hab
      obtain ⟨i1, i2, i3⟩ := ih (f a) (N.nn a) (N.mono _ _ hab) hl
      rw [lst_go N.nn a0 ha2, row_go N.nn a0 ha2, row_go N.nn h0 h]
      refine ⟨i1, by simp only [List.length_cons]; omega, ?_⟩
      simp only [List.map_cons, List.sum_cons]
      have := hg a b ha hab
      omega
    · have e : a = 0 := by omega
      subst e
      obtain ⟨i1, i2, i3⟩ := ih 0 (Int.le_refl _) (N.nn b) hl
      refine ⟨lst_stop N.nn (.inl (Int.le_refl _)), ?_, ?_⟩
      · rw [row_go N.nn h0 h, List.length_cons]; omega
      · rw [row_go N.nn h0 h, List.map_cons, List.sum_cons]
        have := hg 0 b (Int.le_refl _) (by omega)
        omega
theorem row_len : ∀ b, 0 ≤ b → ((row f b).length : Int) ≤ b + 1 := row_ind N.nn (P := fun b => ((row f b).length : Int) ≤ b + 1) (fun b h0 h => by
  show ((row f b).length : Int) ≤ b + 1
  rw [row_stop N.nn h, List.length_singleton]; omega) (fun b h0 h ih => by
  show ((row f b).length : Int) ≤ b + 1
  have ih : ((row f (f b)).length : Int) ≤ f b + 1 := ih
  rw [row_go N.nn h0 h, List.length_cons]; omega)
theorem row_mem : ∀ b, 0 ≤ b → ∀ x ∈ row f b, 0 ≤ x ∧ x ≤ b := row_ind N.nn (fun b h0 h x hx => by rw [row_stop N.nn h] at hx; simp at hx; omega) (fun b h0 h ih x hx => by
  rw [row_go N.nn h0 h] at hx
  rcases List.mem_cons.mp hx with rfl | hx
  · omega
  · have := ih x hx; omega)
/-- so many steps lead to 0 -/
def EndsIn (f : Int → Int) : Nat → Int → Prop
  | 0, b => b = 0
  | m + 1, b => EndsIn f m (f b)
omit N in
theorem EndsIn.step {m : Nat} {b : Int} : EndsIn f (m + 1) b ↔ EndsIn f m (f b) := Iff.rfl
theorem EndsIn.zero : ∀ m, EndsIn f m 0
  | 0 => rfl
  | m + 1 => by show EndsIn f m (f 0); rw [N.z]; exact EndsIn.zero m
theorem endsIn_stuck {x : Int} (h1 : 1 ≤ x) (hx : x ≤ f x) : ∀ m b, x ≤ b → ¬ EndsIn f m b
  | 0, b, h => by show ¬ b = 0; omega
  | m + 1, b, h => endsIn_stuck h1 hx m (f b) (Int.le_trans hx (N.mono _ _ h))
theorem endsIn_iff : ∀ (m : Nat) (b : Int), 0 ≤ b → (EndsIn f m b ↔ lst f b = 0 ∧ (row f b).length ≤ m + 1)
  | 0, b, hb => by
    show b = 0 ↔ _
    constructor
    · rintro rfl
      rw [lst_stop N.nn (.inl (Int.le_refl _)), row_stop N.nn (.inl (Int.le_refl _))]
      exact ⟨rfl, Nat.le_refl _⟩
    · rintro ⟨h1, h2⟩
      by_cases h0 : 0 < b
      · by_cases hc : f b < b
        · rw [row_go N.nn h0 hc, List.length_cons] at h2
          exact absurd (List.length_eq_zero_iff.mp (show (row f (f b)).length = 0 by omega)) (row_ne N.nn _)
        · rw [lst_stop N.nn (.inr (by omega))] at h1; exact h1
      · omega
  | m + 1, b, hb => by
    rw [EndsIn.step, endsIn_iff m (f b) (N.nn b)]
    by_cases h0 : 0 < b
    · by_cases hc : f b < b
      · rw [lst_go N.nn h0 hc, row_go N.nn h0 hc, List.length_cons]
        constructor
        · rintro ⟨h1, h2⟩; exact ⟨h1, by omega⟩
        · rintro ⟨h1, h2⟩; exact ⟨h1, by omega⟩
      · constructor
        · intro h
          exact absurd ((endsIn_iff m (f b) (N.nn b)).mpr h) (endsIn_stuck N (x := b) (by omega) (by omega) m (f b) (by omega))
        · rintro ⟨h1, h2⟩
          rw [lst_stop N.nn (.inr (by omega))] at h1
          omega
    · have e : b = 0 := by omega
      subst e
      rw [N.z, lst_stop N.nn (.inl (Int.le_refl _)), row_stop N.nn (.inl (Int.le_refl _))]
      simp
/-- the greatest balance that goes to a bound -/
theorem endsIn_bound {m : Nat} {F G : Int} (hF : ∀ b, 0 ≤ b → (b ≤ F ↔ EndsIn f m b)) (hF0 : 0 ≤ F) (h1 : f G ≤ F) (h2 : ∀ x, G < x → F < f x) : ∀ b, 0 ≤ b → (b ≤ G ↔ EndsIn f (m + 1) b) := by
  intro b hb
  rw [EndsIn.step, ← hF (f b) (N.nn b)]
  constructor
  · intro h
    exact Int.le_trans (N.mono _ _ h) h1
  · intro h
    by_cases q : b ≤ G
    · exact q
    · have := h2 b (by omega)
      omega
end
/-! ### what is paid -/
theorem paid_sum {p : Pl} (ok : p.Ok) : ∀ b, 0 ≤ b → lst (p.nxt 0) b = 0 → ((row (p.nxt 0) b).dropLast.map (p.pay 0)).sum = b + ((row (p.nxt 0) b).map p.inter).sum := by
  have N := nice ok (Int.le_refl 0)
  refine row_ind N.nn (fun b h0 h hl => ?_) (fun b h0 h ih hl => ?_)
  · rw [lst_stop N.nn h] at hl
    subst hl
    rw [row_stop N.nn h]
    simp [inter_0]
  · rw [lst_go N.nn h0 h] at hl
    have z := ih hl
    rw [row_go N.nn h0 h]
    cases e : row (p.nxt 0) (p.nxt 0 b) with
    | nil => exact absurd e (row_ne N.nn _)
    | cons x r =>
      rw [e] at z
      rw [List.dropLast_cons₂, List.map_cons, List.sum_cons, z, pay_eq]
      simp only [List.map_cons, List.sum_cons]
      unfold Pl.owed
      omega
/-! ### the least balance that does not end -/
def firstWith (p : Pl) (i : Int) : Int := -((-(i * 1000)) / p.rate)
theorem fw_spec {p : Pl} (ok : p.Ok) (hr : 0 < p.rate) (i : Int) : i * 1000 ≤ firstWith p i * p.rate ∧ firstWith p i * p.rate < i * 1000 + p.rate := by
  unfold firstWith
  have h1 := Int.emod_nonneg (-(i * 1000)) (b := p.rate) (by omega)
  have h2 := Int.emod_lt_of_pos (-(i * 1000)) hr
  have h3 := Int.mul_ediv_add_emod (-(i * 1000)) p.rate
  have e : p.rate * (-(i * 1000) / p.rate) = (-(i * 1000) / p.rate) * p.rate := Int.mul_comm _ _
  rw [Int.neg_mul]
  omega
theorem fw_inter {p : Pl} (ok : p.Ok) (hr : 0 < p.rate) (i : Int) : p.inter (firstWith p i) = i := by
  obtain ⟨h1, h2⟩ := fw_spec ok hr i
  have := ok.r1
  unfold Pl.inter
  omega
theorem fw_le {p : Pl} (ok : p.Ok) (hr : 0 < p.rate) {i b : Int} (h : i ≤ p.inter b) : firstWith p i ≤ b := by
  obtain ⟨h1, h2⟩ := fw_spec ok hr i
  have h3 : i * 1000 ≤ b * p.rate := by unfold Pl.inter at h; omega
  by_cases q : firstWith p i ≤ b
  · exact q
  · have : (b + 1) * p.rate ≤ firstWith p i * p.rate := mul_mono (by omega) ok.r0
    rw [Int.add_mul] at this
    omega
theorem fw_mono {p : Pl} (ok : p.Ok) (hr : 0 < p.rate) {i j : Int} (h : i ≤ j) : firstWith p i ≤ firstWith p j := fw_le ok hr (by rw [fw_inter ok hr]; exact h)
/-- a balance from 1 on stands just if its interest is not less than what is paid -/
theorem stuck_iff {p : Pl} (ok : p.Ok) {b : Int} (hb : 1 ≤ b) : b ≤ p.nxt 0 b ↔ p.least ≤ p.inter b ∧ p.want b ≤ p.inter b := by
  rw [nxt_eq (by decide)]
  unfold Pl.owed
  omega
theorem fw_pos {p : Pl} (ok : p.Ok) (hr : 0 < p.rate) {i : Int} (hi : 1 ≤ i) : 1 ≤ firstWith p i := by
  obtain ⟨h1, h2⟩ := fw_spec ok hr i
  by_cases q : 1 ≤ firstWith p i
  · exact q
  · have : firstWith p i * p.rate ≤ 0 * p.rate := mul_mono (by omega) ok.r0
    omega
/-- LE p o: o is the least balance that does not end -/
def LE (p : Pl) : Option Int → Prop
  | none => ∀ x, 1 ≤ x → p.nxt 0 x < x
  | some L => 1 ≤ L ∧ L ≤ p.nxt 0 L ∧ ∀ x, 1 ≤ x → x < L → p.nxt 0 x < x
theorem le_rate0 {p : Pl} (ok : p.Ok) (hr : p.rate = 0) : LE p none := by
  intro x hx
  by_cases q : p.nxt 0 x < x
  · exact q
  · have := (stuck_iff ok hx).mp (by omega)
    have e : p.inter x = 0 := by unfold Pl.inter; rw [hr]; simp
    have := ok.l0
    omega
theorem le_plus {p : Pl} (ok : p.Ok) (hr : 0 < p.rate) (hp : p.plus = true) : LE p (if firstWith p p.least * p.share < 1000 then some (firstWith p p.least) else none) := by
  have hpos := fw_pos ok hr (i := p.least) ok.l0
  have w : ∀ x, p.want x = p.inter x + x * p.share / 1000 := fun x => by unfold Pl.want; rw [if_pos hp]
  have low : ∀ x, 1 ≤ x → x ≤ p.nxt 0 x → firstWith p p.least ≤ x ∧ x * p.share < 1000 := fun x hx h => by
    obtain ⟨h1, h2⟩ := (stuck_iff ok hx).mp h
    rw [w] at h2
    exact ⟨fw_le ok hr h1, by omega⟩
  by_cases hc : firstWith p p.least * p.share < 1000
  · rw [if_pos hc]
    refine ⟨hpos, (stuck_iff ok hpos).mpr ⟨by rw [fw_inter ok hr]; exact Int.le_refl _, ?_⟩, fun x hx hl => ?_⟩
    · rw [w]
      have : 0 ≤ firstWith p p.least * p.share := Int.mul_nonneg (by omega) ok.s0
      omega
    · by_cases q : p.nxt 0 x < x
      · exact q
      · have := (low x hx (by omega)).1
        omega
  · rw [if_neg hc]
    intro x hx
    by_cases q : p.nxt 0 x < x
    · exact q
    · obtain ⟨h1, h2⟩ := low x hx (by omega)
      have := mul_mono h1 ok.s0
      omega
/-- the test of an interest -/
def Good (p : Pl) (i : Int) : Prop := (firstWith p i + i) * p.share / 1000 ≤ i
theorem good_stuck {p : Pl} (ok : p.Ok) (hr : 0 < p.rate) (hp : p.plus = false) {i : Int} (hi : p.least ≤ i) : firstWith p i ≤ p.nxt 0 (firstWith p i) ↔ Good p i := by
  have hpos := fw_pos ok hr (i := i) (by have := ok.l0; omega)
  rw [stuck_iff ok hpos, fw_inter ok hr]
  unfold Pl.want Pl.owed Good
  rw [if_neg (by rw [hp]; decide), fw_inter ok hr]
  exact ⟨fun h => h.2, fun h => ⟨hi, h⟩⟩
theorem stuck_good {p : Pl} (ok : p.Ok) (hr : 0 < p.rate) (hp : p.plus = false) {x : Int} (hx : 1 ≤ x) (h : x ≤ p.nxt 0 x) : p.least ≤ p.inter x ∧ firstWith p (p.inter x) ≤ x ∧ Good p (p.inter x) := by
  obtain ⟨h1, h2⟩ := (stuck_iff ok hx).mp h
  refine ⟨h1, fw_le ok hr (Int.le_refl _), ?_⟩
  unfold Pl.want Pl.owed at h2
  rw [if_neg (by rw [hp]; decide)] at h2
  unfold Good
  have := div_mono (mul_mono (a := firstWith p (p.inter x) + p.inter x) (b := x + p.inter x) (by have := fw_le ok hr (Int.le_refl (p.inter x)); omega) ok.s0)
  omega
/-- all interests below one are not good: the first good one gives the least balance -/
theorem le_found {p : Pl} (ok : p.Ok) (hr : 0 < p.rate) (hp : p.plus = false) {i : Int} (hi : p.least ≤ i) (hg : Good p i) (hno : ∀ j, p.least ≤ j → j < i → ¬ Good p j) : LE p (some (firstWith p i)) := by
  refine ⟨fw_pos ok hr (by have := ok.l0; omega), (good_stuck ok hr hp hi).mpr hg, fun x hx hl => ?_⟩
  by_cases q : p.nxt 0 x < x
  · exact q
  · obtain ⟨h1, h2, h3⟩ := stuck_good ok hr hp hx (by omega)
    by_cases z : p.inter x < i
    · exact absurd h3 (hno _ h1 z)
    · have := fw_le ok hr (i := i) (b := x) (by omega)
      omega
theorem le_none {p : Pl} (ok : p.Ok) (hr : 0 < p.rate) (hp : p.plus = false) (hno : ∀ j, p.least ≤ j → ¬ Good p j) : LE p none := by
  intro x hx
  by_cases q : p.nxt 0 x < x
  · exact q
  · obtain ⟨h1, h2, h3⟩ := stuck_good ok hr hp hx (by omega)
    exact absurd h3 (hno _ h1)
theorem over_eq {p : Pl} {i : Int} : i * (p.share * (1000 + p.rate) - 1000 * p.rate) = i * p.share * 1000 + i * p.share * p.rate - 1000 * (i * p.rate) := by
  rw [Int.mul_sub, Int.mul_add, Int.mul_add, Int.mul_left_comm i 1000 p.rate, Int.mul_assoc, Int.mul_assoc]
/-- with over not above 0 each interest is good -/
theorem good_low {p : Pl} (ok : p.Ok) (hr : 0 < p.rate) (ho : p.share * (1000 + p.rate) - 1000 * p.rate ≤ 0) {i : Int} (hi : 0 ≤ i) : Good p i := by
  obtain ⟨h1, h2⟩ := fw_spec ok hr i
  unfold Good
  -- (b + i) * share * rate < 1000 * rate * (i + 1)
  have a1 : firstWith p i * p.rate * p.share ≤ (i * 1000 + p.rate - 1) * p.share := mul_mono (by omega) ok.s0
  have a2 : i * (p.share * (1000 + p.rate) - 1000 * p.rate) ≤ i * 0 := Int.mul_le_mul_of_nonneg_left ho hi
  rw [over_eq] at a2
  have a3 : (p.rate - 1) * p.share ≤ (p.rate - 1) * 1000 := Int.mul_le_mul_of_nonneg_left ok.s1 (by omega)
  have a4 : (i * 1000 + p.rate - 1) * p.share = i * p.share * 1000 + (p.rate - 1) * p.share := by
    rw [show i * 1000 + p.rate - 1 = i * 1000 + (p.rate - 1) by omega, Int.add_mul, Int.mul_right_comm]
  have a5 : (firstWith p i + i) * p.share * p.rate = firstWith p i * p.rate * p.share + i * p.share * p.rate := by
    rw [Int.add_mul, Int.add_mul, Int.mul_right_comm (firstWith p i) p.share p.rate]
  have a6 : (firstWith p i + i) * p.share * p.rate < (1000 * (i + 1)) * p.rate := by
    rw [a5]
    have : 1000 * (i + 1) * p.rate = 1000 * (i * p.rate) + 1000 * p.rate := by rw [Int.mul_assoc, Int.add_mul, Int.mul_add]; omega
    omega
  have a7 : (firstWith p i + i) * p.share < 1000 * (i + 1) := Int.lt_of_mul_lt_mul_right a6 ok.r0
  omega
/-- from some interest on none is good -/
theorem good_high {p : Pl} (ok : p.Ok) (hr : 0 < p.rate) {i : Int} (hi : 1000 * p.rate ≤ i * (p.share * (1000 + p.rate) - 1000 * p.rate)) : ¬ Good p i := by
  obtain ⟨h1, h2⟩ := fw_spec ok hr i
  unfold Good
  intro h
  have a1 : i * 1000 * p.share ≤ firstWith p i * p.rate * p.share := mul_mono h1 ok.s0
  rw [over_eq] at hi
  have a5 : (firstWith p i + i) * p.share * p.rate = firstWith p i * p.rate * p.share + i * p.share * p.rate := by
    rw [Int.add_mul, Int.add_mul, Int.mul_right_comm (firstWith p i) p.share p.rate]
  have a6 : (firstWith p i + i) * p.share < 1000 * (i + 1) := by omega
  have a7 : (firstWith p i + i) * p.share * p.rate < (1000 * (i + 1)) * p.rate := Int.mul_lt_mul_of_pos_right a6 hr
  have a8 : 1000 * (i + 1) * p.rate = 1000 * (i * p.rate) + 1000 * p.rate := by rw [Int.mul_assoc, Int.add_mul, Int.mul_add]; omega
  have a9 : i * 1000 * p.share = i * p.share * 1000 := Int.mul_right_comm _ _ _
  omega
theorem ends_le {p : Pl} (ok : p.Ok) {o : Option Int} (h : LE p o) {b : Int} (hb : 0 ≤ b) : lst (p.nxt 0) b = 0 ↔ ∀ L, o = some L → b < L := by
  rw [ends_iff (nice ok (Int.le_refl 0)) hb]
  cases o with
  | none => exact ⟨fun _ L e => (nomatch e), fun _ x h1 _ => h x h1⟩
  | some L =>
    obtain ⟨h1, h2, h3⟩ := h
    constructor
    · intro q L' e
      obtain rfl := Option.some.inj e
      by_cases z : b < L
      · exact z
      · have := q L h1 (by omega); omega
    · intro q x hx hxb
      exact h3 x hx (by have := q L rfl; omega)
end M78
namespace Pr
open PySem PySem.Spec PyProof.Rows L2 Wb M78
local macro_rules | `(tactic| k_ownIn) => `(tactic| k_dflt rfl)
local macro_rules | `(tactic| k_clsL) => `(tactic| (dsimp only [wipe, List.map_cons, List.map_nil, List.set_cons_zero, List.set_cons_succ] <;> exact rfl))
local macro_rules | `(tactic| k_memK) => `(tactic| with_reducible first
  | assumption
  | (refine Same.get (by assumption) ?_; k_memK))
local macro_rules | `(tactic| k_updF) => `(tactic| with_reducible first | exact sqT (by k_memK) | assumption | (refine Same.tup (by assumption) ?_; k_updF))
local macro_rules | `(tactic| k_offL) => `(tactic| first | exact Nat.le_of_ble_eq_true rfl | (simp only [List.length_append, List.length_cons, List.length_nil, List.length_map]; exact Nat.le_trans (by omega) (by decide : 1000000 ≤ sizeLine)))
local macro_rules | `(tactic| k_intsEnd) => `(tactic| k_dflt first | exact Or.inl ⟨by omega, by omega⟩ | exact Or.inr ⟨by omega, by omega⟩ | exact ⟨by omega, by omega⟩ | (show (0 : Int) < _; omega) | exact ⟨by decide, by decide, by decide⟩)
local macro_rules | `(tactic| k_upd) => `(tactic| first | with_reducible rfl | with_reducible exact Bool.not_true | with_reducible exact Bool.not_false | (with_reducible refine decide_eq_true ?_; (k_dflt first | assumption | omega)) | (with_reducible refine decide_eq_false ?_; (k_dflt first | assumption | omega)) | with_reducible assumption | (law_purse 300 => k_dflt rfl) | (law_purse 20000 => (simp only [Bool.not_eq_eq_eq_not, Bool.not_true, Bool.not_false, beq_eq_false_iff_ne, bne_iff_ne, ne_eq, beq_iff_eq, decide_eq_true_eq, decide_eq_false_iff_not, beq_true, beq_false, Bool.false_beq, Bool.true_beq, Bool.not_not]; omega)))
local macro_rules | `(tactic| k_places) => `(tactic| with_reducible first
  | refine g_var (by k_ownIn) ?_
  | refine g_c ?_
  | refine g_op ?_
  | refine g_cons ?_
  | refine g_nil ?_
  | refine g_call ?_
  | refine g_CB ?_
  | refine g_rI0 ?_
  | refine g_sAsg ?_
  | refine g_nameN (by k_clsL) ?_
  | refine g_sIf ?_
  | refine g_ret ?_
  | refine g_asg ?_
  | refine g_ifS ?_
  | refine g_nx ?_
  | refine g_rt ?_
  | refine g_test ?_
  | refine g_tB ?_
  | refine g_exB ?_
  | refine g_exI ?_
  | refine g_eqI ?_
  | refine g_neI ?_
  | refine g_eqS ?_
  | refine g_neS ?_
  | refine g_eqB ?_
  | refine g_neB ?_
  | refine g_isNr ?_
  | refine g_notNr ?_
  | refine g_isNi ?_
  | refine g_notNi ?_
  | refine g_isNb ?_
  | refine g_notNb ?_
  | refine g_isNs ?_
  | refine g_notNs ?_
  | refine g_isNn ?_
  | refine g_notNn ?_
  | refine g_and ?_
  | refine g_or ?_
  | refine g_not ?_
  | refine g_andV ?_
  | refine g_orV ?_
  | refine g_notV ?_
  | refine g_if ?_
  | refine g_itT (by k_upd) ?_
  | refine g_itF (by k_upd) ?_
  | refine g_chain ?_
  | refine g_un ?_
  | refine g_rU ?_
  | refine g_fld ?_
  | refine g_exF (by k_memK) (by assumption) (by assumption) (by k_ownIn) ?_
  | refine g_meth ?_
  | refine g_prop ?_
  | refine g_exP (by k_memK) ?_
  | refine g_exM (by k_memK) (by k_ownIn) ?_
  | refine g_tup ?_
  | refine g_lst ?_
  | refine g_ixT (by k_updF) (by k_ownIn) ?_
  | refine g_gTup (by k_updF) (by k_ownIn) ?_
  | refine g_gCons ?_
  | refine g_gNil ?_
  | refine g_sDrop ?_
  | refine g_drop ?_
  | refine g_sAug (by k_ownIn) ?_
  | refine g_aug (by k_ownIn) ?_
  | refine g_sPar ?_
  | refine g_par ?_
  | refine g_ex2 ?_
  | refine g_next ?_
  | refine g_retS ?_
  | refine g_is_int_int ?_
  | refine g_is_int_bool ?_
  | refine g_is_bl_bool ?_
  | refine g_is_bl_int ?_
  | refine g_is_str_str ?_
  | refine g_is_int_str ?_
  | refine g_is_str_int ?_
  | refine g_is_str_bool ?_
  | refine g_is_bl_str ?_
  | refine g_is_lst_list (by k_memK) ?_
  | refine g_is_lst_tuple (by k_memK) ?_
  | refine g_is_lst_dict (by k_memK) ?_
  | refine g_is_tup_list (by k_memK) ?_
  | refine g_is_tup_tuple (by k_memK) ?_
  | refine g_is_tup_dict (by k_memK) ?_
  | refine g_is_dK_list (by k_memK) ?_
  | refine g_is_dK_tuple (by k_memK) ?_
  | refine g_is_dK_dict (by k_memK) ?_
  | refine g_is_dT_list (by k_memK) ?_
  | refine g_is_dT_tuple (by k_memK) ?_
  | refine g_is_dT_dict (by k_memK) ?_
  | refine g_isiC (by assumption) (by k_memK) ?_
  | refine g_forL ?_
  | refine g_forR1 ?_
  | refine g_forT ?_
  | refine g_lcL ?_
  | refine g_sFld ?_
  | refine g_ssFld ?_
  | refine g_dget ?_
  | refine g_sDput ?_
  | refine g_ssDput ?_
  | refine g_BM ?_
  | refine g_BM0 ?_
  | refine g_tyL (sqL (by k_memK)) ?_
  | refine g_tyS ?_
  | refine g_lenL (sqL (by k_memK)) ?_
  | refine g_lenT (sqT (by k_memK)) ?_
  | refine g_max ?_
  | refine g_min ?_
  | refine g_intI ?_
  | refine g_intB ?_
  | refine g_sl ?_
  | refine g_noPart ?_
  | refine g_part ?_
  | refine g_rI (by k_intsEnd) ?_
  | refine g_wipe (by k_ownIn) ?_
  | refine g_make ?_
  | refine g_seq ?_)
local macro_rules | `(tactic| k_subL) => `(tactic| repeat (k_places))

section
variable {P : Program} {w : World} {K : PySem.W.Frag} {mg : Str → Option Value} {base : Heap}
def spIsNumber : Sp := fun vs H Q _ => ∃ n : Int, vs = [.int n] ∧ Q (.bl true) H
theorem cal0_is_number (T : TX K mg base) : CalA P w K mg base 1 (He.ga K "is_number") ["value"] [] spIsNumber := by
  refine cal_mk (k := 0) (T.d_is_number) rfl sc_is_number (fun _ _ _ _ _ _ us hl => match us, hl with | [_], _ => rfl) (fun vs H Q E h => ?_) (fun cdv A outer s H vs Q E hr h => ?_)
  · obtain ⟨_, rfl, _⟩ := h; rfl
  · have hu := hu_of hr
    clear hu
    obtain ⟨n, rfl, k⟩ := h
    refine ⟨_, (pss_one (ps_ret (pe_and (pe_callB (call_isiK' (K := K) rfl) (by rfl) T.b_isinstance (by decide +kernel) (pa_cons (pv 0) (pa_cons (pe_bltn (v := .ty "int") (by rfl) T.b_int (by decide +kernel) rfl) pa_nil))) (pe_one (pe_not (pe_callB (call_isiK' (K := K) rfl) (by rfl) T.b_isinstance (by decide +kernel) (pa_cons (pv 0) (pa_cons (pe_bltn (v := .ty "bool") (by rfl) T.b_bool (by decide +kernel) rfl) pa_nil)))))))), ?_⟩
    try dsimp only [cxOf, Cx.nox]
    refine g_start (σ' := [some _]) rfl ?_
    k_subL
    exact k
theorem cal_is_number (T : TX K mg base) : Cal P w K mg base 1 "is_number" ["value"] [] spIsNumber := (cal0_is_number T).cal (T.d_is_number) T.g_is_number
def spIsNumberIn : Sp := fun vs H Q _ => ∃ n a b : Int, vs = [.int n, .int a, .int b] ∧ a ≤ n ∧ n ≤ b ∧ Q (.bl true) H
theorem cal0_is_number_in (T : TX K mg base) : CalA P w K mg base 2 (He.ga K "is_number_in") ["value", "least", "most"] [] spIsNumberIn := by
  refine cal_mk (k := 1) (T.d_is_number_in) rfl sc_is_number_in (fun _ _ _ _ _ _ us hl => match us, hl with | [_, _, _], _ => rfl) (fun vs H Q E h => ?_) (fun cdv A outer s H vs Q E hr h => ?_)
  · obtain ⟨_, _, _, rfl, _⟩ := h; rfl
  · have hu := hu_of hr
    clear hu
    obtain ⟨n, a, b, rfl, h1, h2, k⟩ := h
    refine ⟨_, (pss_one (ps_ret (pe_and (pe_cal (cal_is_number T) (hr.mono (by decide)) (pa_cons (pv 0) pa_nil)) (pe_one (pe_chain op_le op_le (pv 1) (pv 0) (pv 2)))))), ?_⟩
    try dsimp only [cxOf, Cx.nox]
    refine g_start (σ' := [some _, some _, some _]) rfl ?_
    k_subL
    refine ⟨_, rfl, ?_⟩
    k_subL
    rw [decide_eq_true h2]
    exact k
theorem cal_is_number_in (T : TX K mg base) : Cal P w K mg base 2 "is_number_in" ["value", "least", "most"] [] spIsNumberIn := (cal0_is_number_in T).cal (T.d_is_number_in) T.g_is_number_in
theorem c_isNumberIn {n a b : Int} {H : Hp} {Q : VK} {E : XK} (h1 : a ≤ n) (h2 : n ≤ b) (k : Q (.bl true) H) : spIsNumberIn ([.int n, .int a, .int b] ++ []) H Q E := ⟨n, a, b, rfl, h1, h2, k⟩
local macro_rules | `(tactic| k_places) => `(tactic| with_reducible refine c_isNumberIn (by k_dflt omega) (by k_dflt omega) ?_)
def spIsList : Sp := fun vs H Q _ => ∃ a xs, vs = [.ref a] ∧ H a = some (.lst xs) ∧ ∀ H', Same H H' → Q (.bl true) H'
theorem cal0_is_list (T : TX K mg base) : CalA P w K mg base 1 (He.ga K "is_list") ["value"] [] spIsList := by
  refine cal_mk (k := 0) (T.d_is_list) rfl sc_is_list (fun _ _ _ _ _ _ us hl => match us, hl with | [_], _ => rfl) (fun vs H Q E h => ?_) (fun cdv A outer s H vs Q E hr h => ?_)
  · obtain ⟨_, _, rfl, _⟩ := h; rfl
  · have hu := hu_of hr
    clear hu
    obtain ⟨a, xs, rfl, ha, k⟩ := h
    refine ⟨_, (pss_one (ps_ret (pe_callB (call_isiTK' (K := K) rfl) (by rfl) T.b_isinstance (by decide +kernel) (pa_cons (pv 0) (pa_cons (pe_tup (pa_cons (pe_bltn (v := .ty "list") (by rfl) T.b_list (by decide +kernel) rfl) (pa_cons (pe_bltn (v := .ty "tuple") (by rfl) T.b_tuple (by decide +kernel) rfl) pa_nil))) pa_nil))))), ?_⟩
    try dsimp only [cxOf, Cx.nox]
    refine g_start (σ' := [some _]) rfl ?_
    k_subL
    refine newT (by k_offL) fun p H1 hn s1 hp => ?_
    refine g_isLT (t := "list") hp (.base (.lst (by k_memK))) rfl ?_
    exact k _ s1
theorem cal_is_list (T : TX K mg base) : Cal P w K mg base 1 "is_list" ["value"] [] spIsList := (cal0_is_list T).cal (T.d_is_list) T.g_is_list
/-! ### plans -/
def PlanAt (K : PySem.W.Frag) (H : Hp) (a : Addr) (p : Pl) : Prop := p.Ok ∧ ∃ dx t, H a = some (.ins (He.ga K "Plan") dx [("l_parts", .ref t)]) ∧ H t = some (.tup [.int p.rate, .int p.share, .int p.least, .bl p.plus])
theorem PlanAt.same {H H' : Hp} {a : Addr} {p : Pl} (s : Same H H') (h : PlanAt K H a p) : PlanAt K H' a p := by
  obtain ⟨o, dx, t, h1, h2⟩ := h
  exact ⟨o, dx, t, s.get h1, s.get h2⟩
local macro_rules | `(tactic| k_allIn) => `(tactic| with_reducible first
  | assumption
  | (refine PlanAt.same (by assumption) ?_; k_allIn))
def spInit (K : PySem.W.Frag) : Sp := fun vs H Q _ => ∃ x dx p, vs = [.ref x, .int p.rate, .int p.share, .int p.least, .bl p.plus] ∧ p.Ok ∧ H x = some (.ins (He.ga K "Plan") dx []) ∧
  ∀ H', Kp (fun b => b = x) H H' → PlanAt K H' x p → Q .non H'
theorem cal_Plan_D___init__ (T : TX K mg base) : CalA P w K mg base 3 (He.ma K (He.ga K "Plan") "__init__") ["self", "rate", "share", "least", "plus"] [] (spInit K) := by
  refine cal_mkD (k := 2) (T.d_Plan_D___init__) (fun z => by cases z) sc_Plan_D___init__ (fun _ _ _ _ _ _ _ us its hl hi => match us, its, hl, hi with | [_, _, _, _, _], [_], _, _ => ⟨_, rfl, rfl⟩) (fun vs H Q E h => ?_) (fun cdv A outer s H vs Q E hr h => ?_)
  · obtain ⟨_, _, _, rfl, _⟩ := h; rfl
  · have hu := hu_of hr
    clear hu
    obtain ⟨x, dx, p, rfl, ok, hx, k⟩ := h
    have cP := T.c_Plan
    have nP := T.n_Plan_l_parts
    have := ok.r0; have := ok.r1; have := ok.s0; have := ok.s1; have := ok.l0; have := ok.l1
    refine ⟨_, (pss_cons (ps_if (pt_not (pt_val (pe_cal (cal_is_number_in T) (hr.mono (by decide)) (pa_cons (pv 1) (pa_cons pe_int (pa_cons (pe_gI T.k_THOUSAND) pa_nil))))))
      (pss_one ps_never)
      pss_nil)
      (pss_cons (ps_if (pt_not (pt_val (pe_cal (cal_is_number_in T) (hr.mono (by decide)) (pa_cons (pv 2) (pa_cons pe_int (pa_cons (pe_gI T.k_THOUSAND) pa_nil))))))
      (pss_one ps_never)
      pss_nil)
      (pss_cons (ps_if (pt_not (pt_val (pe_cal (cal_is_number_in T) (hr.mono (by decide)) (pa_cons (pv 3) (pa_cons pe_int (pa_cons (pe_gI T.k_MOST_LEAST) pa_nil))))))
      (pss_one ps_never)
      pss_nil)
      (pss_cons (ps_if (pt_not (pt_val (pe_callB (call_isiK' (K := K) rfl) (by rfl) T.b_isinstance (by decide +kernel) (pa_cons (pv 4) (pa_cons (pe_bltn (v := .ty "bool") (by rfl) T.b_bool (by decide +kernel) rfl) pa_nil)))))
      (pss_one ps_never)
      pss_nil)
      (pss_one (ps_fldK (K := K) rfl (pv 0) (pe_tup (pa_cons (pv 1) (pa_cons (pv 2) (pa_cons (pv 3) (pa_cons (pv 4) pa_nil))))))))))), ?_⟩
    try dsimp only [cxOf, Cx.nox]
    refine g_start (σ' := [some _, some _, some _, some _, some _]) rfl ?_
    k_subL
    refine newT (by k_offL) fun t H1 hn s1 ht => ?_
    k_subL
    refine fldS (s1.get hx) cP nP (by decide) rfl fun H2 k2 h2 => ?_
    refine k H2 (fun b o e n => k2 _ _ (s1 _ _ e) n) ⟨ok, dx, t, h2, k2 _ _ ht ?_⟩
    exact (ne_of_none hx hn).symm
def spNeedPlan (K : PySem.W.Frag) : Sp := fun vs H Q _ => ∃ a p, vs = [.ref a] ∧ PlanAt K H a p ∧ Q .non H
theorem cal0_need_plan (T : TX K mg base) : CalA P w K mg base 1 (He.ga K "need_plan") ["value"] [] (spNeedPlan K) := by
  refine cal_mk (k := 0) (T.d_need_plan) rfl sc_need_plan (fun _ _ _ _ _ _ us hl => match us, hl with | [_], _ => rfl) (fun vs H Q E h => ?_) (fun cdv A outer s H vs Q E hr h => ?_)
  · obtain ⟨_, _, rfl, _⟩ := h; rfl
  · have hu := hu_of hr
    clear hu
    obtain ⟨a, p, rfl, ⟨ok, dx, t, h1, h2⟩, k⟩ := h
    have iP := T.in_Plan
    refine ⟨_, (pss_one (ps_if (pt_not (pt_val (pe_callB (call_isiK' (K := K) rfl) (by rfl) T.b_isinstance (by decide +kernel) (pa_cons (pv 0) (pa_cons (pe_gC T.g_Plan) pa_nil)))))
      (pss_one ps_never)
      pss_nil)), ?_⟩
    try dsimp only [cxOf, Cx.nox]
    refine g_start (σ' := [some _]) rfl ?_
    k_subL
    exact k
theorem cal_need_plan (T : TX K mg base) : Cal P w K mg base 1 "need_plan" ["value"] [] (spNeedPlan K) := (cal0_need_plan T).cal (T.d_need_plan) T.g_need_plan
def spNeedBalance (K : PySem.W.Frag) : Sp := fun vs H Q _ => ∃ a p b, vs = [.ref a, .int b] ∧ PlanAt K H a p ∧ 0 ≤ b ∧ b ≤ 100000 ∧ Q .non H
theorem c_needPlan {a : Addr} {p : Pl} {H : Hp} {Q : VK} {E : XK} (h : PlanAt K H a p) (k : Q .non H) : spNeedPlan K ([.ref a] ++ []) H Q E := ⟨a, p, rfl, h, k⟩
local macro_rules | `(tactic| k_places) => `(tactic| with_reducible refine c_needPlan (by k_allIn) ?_)
theorem cal0_need_balance (T : TX K mg base) : CalA P w K mg base 3 (He.ga K "need_balance") ["plan", "balance"] [] (spNeedBalance K) := by
  refine cal_mk (k := 2) (T.d_need_balance) rfl sc_need_balance (fun _ _ _ _ _ _ us hl => match us, hl with | [_, _], _ => rfl) (fun vs H Q E h => ?_) (fun cdv A outer s H vs Q E hr h => ?_)
  · obtain ⟨_, _, _, rfl, _⟩ := h; rfl
  · have hu := hu_of hr
    clear hu
    obtain ⟨a, p, b, rfl, hp, h1, h2, k⟩ := h
    refine ⟨_, (pss_cons (ps_expr (pe_cal (cal_need_plan T) (hr.mono (by decide)) (pa_cons (pv 0) pa_nil)))
      (pss_one (ps_if (pt_not (pt_val (pe_cal (cal_is_number_in T) (hr.mono (by decide)) (pa_cons (pv 1) (pa_cons pe_int (pa_cons (pe_gI T.k_MOST_BALANCE) pa_nil))))))
      (pss_one ps_never)
      pss_nil))), ?_⟩
    try dsimp only [cxOf, Cx.nox]
    refine g_start (σ' := [some _, some _]) rfl ?_
    k_subL
    exact k
theorem cal_need_balance (T : TX K mg base) : Cal P w K mg base 3 "need_balance" ["plan", "balance"] [] (spNeedBalance K) := (cal0_need_balance T).cal (T.d_need_balance) T.g_need_balance
theorem c_needBalance {a : Addr} {p : Pl} {b : Int} {H : Hp} {Q : VK} {E : XK} (h : PlanAt K H a p) (h1 : 0 ≤ b) (h2 : b ≤ 100000) (k : Q .non H) : spNeedBalance K ([.ref a, .int b] ++ []) H Q E := ⟨a, p, b, rfl, h, h1, h2, k⟩
local macro_rules | `(tactic| k_places) => `(tactic| with_reducible refine c_needBalance (by k_allIn) (by k_dflt omega) (by k_dflt omega) ?_)
def spMonthWith (K : PySem.W.Frag) : Sp := fun vs H Q _ => ∃ a p b e, vs = [.ref a, .int b, .int e] ∧ PlanAt K H a p ∧
  ∀ q H', H q = none → Same H H' → H' q = some (.tup [.int (p.inter b), .int (p.pay e b), .int (p.nxt e b)]) → Q (.ref q) H'
theorem cal0_month_with (T : TX K mg base) : CalA P w K mg base 1 (He.ga K "month_with") ["plan", "balance", "extra"] [] (spMonthWith K) := by
  refine cal_mk (k := 0) (T.d_month_with) rfl sc_month_with (fun _ _ _ _ _ _ us hl => match us, hl with | [_, _, _], _ => rfl) (fun vs H Q E h => ?_) (fun cdv A outer s H vs Q E hr h => ?_)
  · obtain ⟨_, _, _, _, rfl, _⟩ := h; rfl
  · have hu := hu_of hr
    clear hu
    obtain ⟨a, p, b, e, rfl, ⟨ok, dx, t, h1, h2⟩, k⟩ := h
    have cP := T.c_Plan
    have nP := T.n_Plan_l_parts
    have := ok.r0; have := ok.r1; have := ok.s0; have := ok.s1; have := ok.l0; have := ok.l1
    refine ⟨_, (pss_cons (ps_asg (pe_fldK (K := K) rfl (pv 0)) (pg_tupK (K := K) rfl rfl (pgs_cons (pg_name (i := 3) sc_month_with.nd rfl (Or.inl rfl)) (pgs_cons (pg_name (i := 4) sc_month_with.nd rfl (Or.inl rfl)) (pgs_cons (pg_name (i := 5) sc_month_with.nd rfl (Or.inl rfl)) (pgs_cons (pg_name (i := 6) sc_month_with.nd rfl (Or.inl rfl)) pgs_nil))))))
      (pss_cons (ps_set (i := 7) sc_month_with.nd rfl (Or.inl rfl) (pe_op op_fdiv (pe_op op_mul (pv 1) (pv 3)) (pe_gI T.k_THOUSAND)))
      (pss_cons (ps_set (i := 8) sc_month_with.nd rfl (Or.inl rfl) (pe_op op_add (pv 1) (pv 7)))
      (pss_cons (ps_if (pt_cmpR op_le (pv 8) (pv 5) (nomark _))
      (pss_one (ps_ret (pe_tup (pa_cons (pv 7) (pa_cons (pv 8) (pa_cons pe_int pa_nil))))))
      pss_nil)
      (pss_cons (ps_set (i := 9) sc_month_with.nd rfl (Or.inl rfl) (pe_ifExp (pt_val (pv 6)) (pe_op op_add (pv 7) (pe_op op_fdiv (pe_op op_mul (pv 1) (pv 4)) (pe_gI T.k_THOUSAND))) (pe_op op_fdiv (pe_op op_mul (pv 8) (pv 4)) (pe_gI T.k_THOUSAND))))
      (pss_cons (ps_set (i := 10) sc_month_with.nd rfl (Or.inl rfl) (pe_callB (call_minI rfl) (by rfl) T.b_min (by decide +kernel) (pa_cons (pv 8) (pa_cons (pe_op op_add (pe_callB (call_maxI rfl) (by rfl) T.b_max (by decide +kernel) (pa_cons (pv 5) (pa_cons (pv 9) pa_nil))) (pv 2)) pa_nil))))
      (pss_one (ps_ret (pe_tup (pa_cons (pv 7) (pa_cons (pv 10) (pa_cons (pe_op op_sub (pv 8) (pv 10)) pa_nil)))))))))))), ?_⟩
    try dsimp only [cxOf, Cx.nox]
    refine g_start (σ' := [some _, some _, some _, none, none, none, none, none, none, none, none]) rfl ?_
    k_subL
    have ei : b * p.rate / 1000 = p.inter b := rfl
    have eo : b + p.inter b = p.owed b := rfl
    simp only [ei, eo]
    refine g_itD (fun hle => ?_) (fun hle => ?_)
    · k_subL
      refine newT (by k_offL) fun q H1 hn s1 hq => k q H1 hn s1 ?_
      rw [hq]
      unfold Pl.pay Pl.nxt
      rw [if_pos hle, if_pos hle]
    · have fin : ∀ x, x = p.want b → ∀ q H', H q = none → Same H H' → H' q = some (.tup [.int (p.inter b), .int (min (p.owed b) (max p.least x + e)), .int (p.owed b - min (p.owed b) (max p.least x + e))]) → Q (.ref q) H' := by
        intro x hx q H' hn s hq
        subst hx
        refine k q H' hn s ?_
        rw [hq]
        unfold Pl.pay Pl.nxt
        rw [if_neg hle, if_neg hle]
      k_subL
      refine g_it2 (fun hp => ?_) (fun hp => ?_)
      · k_subL
        refine newT (by k_offL) fun q H1 hn s1 hq => fin _ ?_ q H1 hn s1 hq
        unfold Pl.want
        rw [if_pos hp]
      · k_subL
        refine newT (by k_offL) fun q H1 hn s1 hq => fin _ ?_ q H1 hn s1 hq
        unfold Pl.want
        rw [if_neg (by rw [hp]; decide)]
theorem cal_month_with (T : TX K mg base) : Cal P w K mg base 1 "month_with" ["plan", "balance", "extra"] [] (spMonthWith K) := (cal0_month_with T).cal (T.d_month_with) T.g_month_with
theorem c_monthWith {a : Addr} {p : Pl} {b e : Int} {H : Hp} {Q : VK} {E : XK} (h : PlanAt K H a p) (k : ∀ q H', H q = none → Same H H' → H' q = some (.tup [.int (p.inter b), .int (p.pay e b), .int (p.nxt e b)]) → Q (.ref q) H') : spMonthWith K ([.ref a, .int b, .int e] ++ []) H Q E := ⟨a, p, b, e, rfl, h, k⟩
def spMonth (K : PySem.W.Frag) : Sp := fun vs H Q _ => ∃ a p b, vs = [.ref a, .int b] ∧ PlanAt K H a p ∧ 0 ≤ b ∧ b ≤ 100000 ∧
  ∀ q H', H q = none → Same H H' → H' q = some (.tup [.int (p.inter b), .int (p.pay 0 b), .int (p.nxt 0 b)]) → Q (.ref q) H'
theorem cal0_month (T : TX K mg base) : CalA P w K mg base 4 (He.ga K "month") ["plan", "balance"] [] (spMonth K) := by
  refine cal_mk (k := 3) (T.d_month) rfl sc_month (fun _ _ _ _ _ _ us hl => match us, hl with | [_, _], _ => rfl) (fun vs H Q E h => ?_) (fun cdv A outer s H vs Q E hr h => ?_)
  · obtain ⟨_, _, _, rfl, _⟩ := h; rfl
  · have hu := hu_of hr
    clear hu
    obtain ⟨a, p, b, rfl, hp, h1, h2, k⟩ := h
    refine ⟨_, (pss_cons (ps_expr (pe_cal (cal_need_balance T) (hr.mono (by decide)) (pa_cons (pv 0) (pa_cons (pv 1) pa_nil))))
      (pss_one (ps_ret (pe_cal (cal_month_with T) (hr.mono (by decide)) (pa_cons (pv 0) (pa_cons (pv 1) (pa_cons pe_int pa_nil))))))), ?_⟩
    try dsimp only [cxOf, Cx.nox]
    refine g_start (σ' := [some _, some _]) rfl ?_
    k_subL
    exact c_monthWith hp k
theorem cal_month (T : TX K mg base) : Cal P w K mg base 4 "month" ["plan", "balance"] [] (spMonth K) := (cal0_month T).cal (T.d_month) T.g_month
/-! ### rows -/
def spRowWith (K : PySem.W.Frag) : Sp := fun vs H Q _ => ∃ a p b e, vs = [.ref a, .int b, .int e] ∧ PlanAt K H a p ∧ 0 ≤ b ∧ b ≤ 100000 ∧ 0 ≤ e ∧
  ∀ q H', H q = none → Same H H' → H' q = some (.lst ((row (p.nxt e) b).map .int)) → Q (.ref q) H'
theorem cal0_row_with (T : TX K mg base) : CalA P w K mg base 2 (He.ga K "row_with") ["plan", "balance", "extra"] [] (spRowWith K) := by
  refine cal_mk (k := 1) (T.d_row_with) rfl sc_row_with (fun _ _ _ _ _ _ us hl => match us, hl with | [_, _, _], _ => rfl) (fun vs H Q E h => ?_) (fun cdv A outer s H vs Q E hr h => ?_)
  · obtain ⟨_, _, _, _, rfl, _⟩ := h; rfl
  · have hu := hu_of hr
    clear hu
    obtain ⟨a, p, b, e, rfl, hp, h1, h2, h3, k⟩ := h
    refine ⟨_, (pss_cons (ps_set (i := 3) sc_row_with.nd rfl (Or.inl rfl) (pe_lst (pa_cons (pv 1) pa_nil)))
      (pss_cons (ps_while PassesOwn.never (pt_cmpR op_gt (pe_ix (ix_listK (K := K) rfl) (pv 3) (pe_un un_neg pe_int) (fun _ _ => rfl)) pe_int (nomark _))
      (pss_cons (ps_set (i := 4) sc_row_with.nd rfl (Or.inl rfl) (pe_ix (ix_tupK (K := K) rfl) (pe_cal (cal_month_with T) (hr.mono (by decide)) (pa_cons (pv 0) (pa_cons (pe_ix (ix_listK (K := K) rfl) (pv 3) (pe_un un_neg pe_int) (fun _ _ => rfl)) (pa_cons (pv 2) pa_nil)))) pe_int (fun _ _ => rfl)))
      (pss_cons (ps_if (pt_cmpR op_ge (pv 4) (pe_ix (ix_listK (K := K) rfl) (pv 3) (pe_un un_neg pe_int) (fun _ _ => rfl)) (nomark _))
      (pss_one (ps_ret (pv 3)))
      pss_nil)
      (pss_one (ps_expr (pe_bmK (K := K) rfl PySem.F.plainAttrs_list PySem.F.slot_list_append PySem.F.type_list_append mt_append (pv 3) (pa_cons (pv 4) pa_nil)))))))
      (pss_one (ps_ret (pv 3))))), ?_⟩
    try dsimp only [cxOf, Cx.nox]
    refine g_start (σ' := [some _, some _, some _, none, none]) rfl ?_
    have N := nice hp.1 h3
    k_subL
    refine newL (by k_offL) fun l H1 hn s1 hl => ?_
    k_subL
    refine g_while (fun m σ H' => ∃ (pre : List Int) (x : Int), m = x.toNat ∧ 0 ≤ x ∧ pre.length + x ≤ b ∧ σ = [some (.ref a), some (.int b), some (.int e), some (.ref l), σ.getD 4 none] ∧ Same H H' ∧ H' l = some (.lst ((pre ++ [x]).map .int)) ∧ row (p.nxt e) b = pre ++ row (p.nxt e) x) b.toNat ?_ ?_
    · exact ⟨[], b, rfl, h1, by simp, rfl, s1, hl, rfl⟩
    · rintro m σ H2 ⟨pre, x, rfl, hx, hb, hσ, s2, hl2, hr⟩
      rw [hσ]
      have lst_at : ∀ H', Same H2 H' → SqL K H' l ((pre ++ [x]).map .int) := fun H' s => sqL (s.get hl2)
      have at_last : atI ((pre ++ [x]).map V.int) (-1) = some (V.int x) := by
        rw [List.map_append]
        exact atI_last _ _
      k_subL
      refine g_ixL (lst_at _ (Same.refl _)) at_last ?_
      k_subL
      refine g_itD (fun hpos => ?_) (fun hpos => ?_)
      · refine g_wN ?_
        k_subL
        refine g_ixL (lst_at _ (Same.refl _)) at_last ?_
        k_subL
        refine c_monthWith (hp.same s2) fun q H3 hn s3 hq => ?_
        k_subL
        refine g_ixL (lst_at _ s3) at_last ?_
        k_subL
        refine g_itD (fun hc => ?_) (fun hc => ?_)
        · k_subL
          refine k l H3 ‹H l = none› (s2.trans s3) ?_
          rw [s3.get hl2, hr, row_stop N.nn (.inr hc)]
        · k_subL
          have hlen := N.nn x
          refine g_append (s3.get hl2) (by simp only [List.length_map, List.length_append, List.length_cons, List.length_nil]; exact Nat.lt_of_le_of_lt (by omega : _ ≤ 200000) (by decide)) fun H4 k4 h4 => ?_
          k_subL
          refine ⟨(p.nxt e x).toNat, by omega, pre ++ [x], p.nxt e x, rfl, N.nn x, by simp only [List.length_append, List.length_cons, List.length_nil]; omega, rfl, mutK (s2.trans s3) ‹H l = none› k4, ?_, ?_⟩
          · rw [h4]; simp
          · rw [hr, row_go N.nn (by omega) (by omega)]; simp
      · k_subL
        refine k l H2 ‹H l = none› s2 ?_
        rw [hl2, hr, row_stop N.nn (.inl (by omega))]
theorem cal_row_with (T : TX K mg base) : Cal P w K mg base 2 "row_with" ["plan", "balance", "extra"] [] (spRowWith K) := (cal0_row_with T).cal (T.d_row_with) T.g_row_with
theorem c_rowWith {a : Addr} {p : Pl} {b e : Int} {H : Hp} {Q : VK} {E : XK} (h : PlanAt K H a p) (h1 : 0 ≤ b) (h2 : b ≤ 100000) (h3 : 0 ≤ e) (k : ∀ q H', H q = none → Same H H' → H' q = some (.lst ((row (p.nxt e) b).map .int)) → Q (.ref q) H') : spRowWith K ([.ref a, .int b, .int e] ++ []) H Q E := ⟨a, p, b, e, rfl, h, h1, h2, h3, k⟩
theorem row_last (f : Int → Int) (hf : ∀ x, 0 ≤ f x) (b : Int) : ∃ pre, row f b = pre ++ [lst f b] := by
  unfold lst
  cases h : (row f b).reverse with
  | nil => exact absurd (List.reverse_eq_nil_iff.mp h) (row_ne hf b)
  | cons x r =>
    have e : row f b = r.reverse ++ [x] := by rw [← List.reverse_reverse (row f b), h, List.reverse_cons]
    refine ⟨r.reverse, ?_⟩
    rw [e, List.getLastD_concat]
theorem row_at (f : Int → Int) (hf : ∀ x, 0 ≤ f x) (b : Int) : atI ((row f b).map V.int) (-1) = some (V.int (lst f b)) := by
  obtain ⟨pre, e⟩ := row_last f hf b
  rw [e, List.map_append]
  exact atI_last _ _
/-! ### ending, evidence -/
def spEnding (K : PySem.W.Frag) : Sp := fun vs H Q _ => ∃ a p b, vs = [.ref a, .int b] ∧ PlanAt K H a p ∧ 0 ≤ b ∧ b ≤ 100000 ∧
  (0 < lst (p.nxt 0) b → ∀ H', Same H H' → Q .non H') ∧
  (lst (p.nxt 0) b = 0 → ∀ q H', H q = none → Same H H' → H' q = some (.tup [.int ((row (p.nxt 0) b).length - 1), .int ((row (p.nxt 0) b).map p.inter).sum]) → Q (.ref q) H')
theorem cal0_ending (T : TX K mg base) : CalA P w K mg base 4 (He.ga K "ending") ["plan", "balance"] [] (spEnding K) := by
  refine cal_mk (k := 3) (T.d_ending) rfl sc_ending (fun _ _ _ _ _ _ us hl => match us, hl with | [_, _], _ => rfl) (fun vs H Q E h => ?_) (fun cdv A outer s H vs Q E hr h => ?_)
  · obtain ⟨_, _, _, rfl, _⟩ := h; rfl
  · have hu := hu_of hr
    clear hu
    obtain ⟨a, p, b, rfl, hp, h1, h2, k1, k2⟩ := h
    refine ⟨_, (pss_cons (ps_expr (pe_cal (cal_need_balance T) (hr.mono (by decide)) (pa_cons (pv 0) (pa_cons (pv 1) pa_nil))))
      (pss_cons (ps_set (i := 2) sc_ending.nd rfl (Or.inl rfl) (pe_cal (cal_row_with T) (hr.mono (by decide)) (pa_cons (pv 0) (pa_cons (pv 1) (pa_cons pe_int pa_nil)))))
      (pss_cons (ps_if (pt_cmpR op_gt (pe_ix (ix_listK (K := K) rfl) (pv 2) (pe_un un_neg pe_int) (fun _ _ => rfl)) pe_int (nomark _))
      (pss_one (ps_ret pe_non))
      pss_nil)
      (pss_one (ps_ret (pe_tup (pa_cons (pe_op op_sub (pe_callB (call_lenK (K := K) rfl) (by rfl) T.b_len (by decide +kernel) (pa_cons (pv 2) pa_nil)) pe_int) (pa_cons (pe_callB (cr_sumK (K := K) rfl rfl) (by rfl) T.b_sum (by decide +kernel) (pa_cons (pe_lc (own := [("one", 3)]) (g := gName 3) (tt := tYes) (by rfl) sc_ending.nd (pi_listK (K := K) rfl (pv 2)) (blkOk_by (own := [("one", 3)]) (N := ["plan", "balance", "row", "one"]) (sc := defScope sd_ending) (by decide +kernel)) (fun _ _ _ _ _ => (pg_name (i := 3) sc_ending.nd rfl (Or.inl rfl))) (fun _ _ _ _ _ => pts_nil) (fun _ _ _ _ _ => (pe_ix (ix_tupK (K := K) rfl) (pe_cal (cal_month_with T) (hr.mono (by decide)) (pa_cons (pv 0) (pa_cons (pv 3) (pa_cons pe_int pa_nil)))) pe_int (fun _ _ => rfl)))) pa_nil)) pa_nil)))))))), ?_⟩
    try dsimp only [cxOf, Cx.nox]
    refine g_start (σ' := [some _, some _, none, none]) rfl ?_
    have N := nice hp.1 (Int.le_refl 0)
    k_subL
    refine c_rowWith hp h1 h2 (Int.le_refl 0) fun q H1 hn s1 hq => ?_
    k_subL
    refine g_ixL (sqL hq) (row_at _ N.nn b) ?_
    k_subL
    refine g_itD (fun hpos => ?_) (fun hpos => ?_)
    · k_subL
      exact k1 hpos H1 s1
    · k_subL
      have hz : lst (p.nxt 0) b = 0 := by have := lst_nn N b h1; omega
      have hlen := row_len N b h1
      refine lcL_ints (sqL hq) (fun x => .int (p.inter x)) (by omega) ?_ ?_
      · intro z hz H2 s2 kk hk
        k_subL
        refine c_monthWith ((hp.same s1).same s2) fun q H3 hn s3 hq => ?_
        k_subL
        exact hk _ s3
      · intro D H2 hD s2 hD2
        k_subL
        refine g_sum (ns := (row (p.nxt 0) b).map p.inter) (sqL (by rw [hD2, List.map_map]; rfl)) ?_
        k_subL
        refine newT (by k_offL) fun t H3 hn3 s3 ht => ?_
        refine k2 hz t H3 ((s1.trans s2).free hn3) ((s1.trans s2).trans s3) ?_
        rw [ht, List.length_map]
theorem cal_ending (T : TX K mg base) : Cal P w K mg base 4 "ending" ["plan", "balance"] [] (spEnding K) := (cal0_ending T).cal (T.d_ending) T.g_ending
def spEvidence (K : PySem.W.Frag) : Sp := fun vs H Q _ => ∃ a p b, vs = [.ref a, .int b] ∧ PlanAt K H a p ∧ 0 ≤ b ∧ b ≤ 100000 ∧
  (0 < lst (p.nxt 0) b → ∀ q H', H q = none → Same H H' → H' q = some (.tup [.str "never", .int (lst (p.nxt 0) b)]) → Q (.ref q) H') ∧
  (lst (p.nxt 0) b = 0 → ∀ q l H', H q = none → Same H H' → H' q = some (.tup [.str "ends", .ref l]) → H' l = some (.lst ((row (p.nxt 0) b).map .int)) → Q (.ref q) H')
theorem cal0_evidence (T : TX K mg base) : CalA P w K mg base 4 (He.ga K "evidence") ["plan", "balance"] [] (spEvidence K) := by
  refine cal_mk (k := 3) (T.d_evidence) rfl sc_evidence (fun _ _ _ _ _ _ us hl => match us, hl with | [_, _], _ => rfl) (fun vs H Q E h => ?_) (fun cdv A outer s H vs Q E hr h => ?_)
  · obtain ⟨_, _, _, rfl, _⟩ := h; rfl
  · have hu := hu_of hr
    clear hu
    obtain ⟨a, p, b, rfl, hp, h1, h2, k1, k2⟩ := h
    refine ⟨_, (pss_cons (ps_expr (pe_cal (cal_need_balance T) (hr.mono (by decide)) (pa_cons (pv 0) (pa_cons (pv 1) pa_nil))))
      (pss_cons (ps_set (i := 2) sc_evidence.nd rfl (Or.inl rfl) (pe_cal (cal_row_with T) (hr.mono (by decide)) (pa_cons (pv 0) (pa_cons (pv 1) (pa_cons pe_int pa_nil)))))
      (pss_one (ps_ret (pe_ifExp (pt_cmpR op_gt (pe_ix (ix_listK (K := K) rfl) (pv 2) (pe_un un_neg pe_int) (fun _ _ => rfl)) pe_int (nomark _)) (pe_tup (pa_cons (pe_gS T.k_NEVER) (pa_cons (pe_ix (ix_listK (K := K) rfl) (pv 2) (pe_un un_neg pe_int) (fun _ _ => rfl)) pa_nil))) (pe_tup (pa_cons (pe_gS T.k_ENDS) (pa_cons (pv 2) pa_nil)))))))), ?_⟩
    try dsimp only [cxOf, Cx.nox]
    refine g_start (σ' := [some _, some _, none]) rfl ?_
    have N := nice hp.1 (Int.le_refl 0)
    k_subL
    refine c_rowWith hp h1 h2 (Int.le_refl 0) fun q H1 hn s1 hq => ?_
    k_subL
    refine g_ixL (sqL hq) (row_at _ N.nn b) ?_
    k_subL
    refine g_itD (fun hpos => ?_) (fun hpos => ?_)
    · k_subL
      refine g_ixL (sqL hq) (row_at _ N.nn b) ?_
      k_subL
      refine newT (by k_offL) fun t H3 hn3 s3 ht => ?_
      exact k1 hpos t H3 (s1.free hn3) (s1.trans s3) ht
    · k_subL
      have hz : lst (p.nxt 0) b = 0 := by have := lst_nn N b h1; omega
      refine newT (by k_offL) fun t H3 hn3 s3 ht => ?_
      exact k2 hz t q H3 (s1.free hn3) (s1.trans s3) ht (s3.get hq)
theorem cal_evidence (T : TX K mg base) : Cal P w K mg base 4 "evidence" ["plan", "balance"] [] (spEvidence K) := (cal0_evidence T).cal (T.d_evidence) T.g_evidence
/-- the evidence that the def evidence gives -/
def spIsEvidence (K : PySem.W.Frag) : Sp := fun vs H Q _ => ∃ a p b t, vs = [.ref a, .int b, .ref t] ∧ PlanAt K H a p ∧ 0 ≤ b ∧ b ≤ 100000 ∧
  ((0 < lst (p.nxt 0) b ∧ H t = some (.tup [.str "never", .int (lst (p.nxt 0) b)])) ∨ (lst (p.nxt 0) b = 0 ∧ ∃ l, H t = some (.tup [.str "ends", .ref l]) ∧ H l = some (.lst ((row (p.nxt 0) b).map .int)))) ∧
  ∀ H', Same H H' → Q (.bl true) H'
theorem cal0_is_evidence (T : TX K mg base) : CalA P w K mg base 4 (He.ga K "is_evidence") ["plan", "balance", "value"] [] (spIsEvidence K) := by
  refine cal_mk (k := 3) (T.d_is_evidence) rfl sc_is_evidence (fun _ _ _ _ _ _ us hl => match us, hl with | [_, _, _], _ => rfl) (fun vs H Q E h => ?_) (fun cdv A outer s H vs Q E hr h => ?_)
  · obtain ⟨_, _, _, _, rfl, _⟩ := h; rfl
  · have hu := hu_of hr
    clear hu
    obtain ⟨a, p, b, t, rfl, hp, h1, h2, hev, k⟩ := h
    refine ⟨_, (pss_cons (ps_expr (pe_cal (cal_need_balance T) (hr.mono (by decide)) (pa_cons (pv 0) (pa_cons (pv 1) pa_nil))))
      (pss_cons (ps_if (PW.pt (pw_or (pt_not (pt_val (pe_callB (call_isiK' (K := K) rfl) (by rfl) T.b_isinstance (by decide +kernel) (pa_cons (pv 2) (pa_cons (pe_bltn (v := .ty "tuple") (by rfl) T.b_tuple (by decide +kernel) rfl) pa_nil))))) (pw_or (pt_cmpR op_ne (pe_callB (call_lenK (K := K) rfl) (by rfl) T.b_len (by decide +kernel) (pa_cons (pv 2) pa_nil)) pe_int (nomark _)) (pw_or1 (pt_not (pt_val (pe_callB (call_isiK' (K := K) rfl) (by rfl) T.b_isinstance (by decide +kernel) (pa_cons (pe_ix (ix_tupK (K := K) rfl) (pv 2) pe_int (fun _ _ => rfl)) (pa_cons (pe_bltn (v := .ty "str") (by rfl) T.b_str (by decide +kernel) rfl) pa_nil)))))))))
      (pss_one (ps_ret pe_bl))
      pss_nil)
      (pss_cons (ps_if (pt_cmpR op_eq (pe_ix (ix_tupK (K := K) rfl) (pv 2) pe_int (fun _ _ => rfl)) (pe_gS T.k_NEVER) (nomark _))
      (pss_one (ps_ret (pe_and (pe_cal (cal_is_number_in T) (hr.mono (by decide)) (pa_cons (pe_ix (ix_tupK (K := K) rfl) (pv 2) pe_int (fun _ _ => rfl)) (pa_cons pe_int (pa_cons (pv 1) pa_nil)))) (pe_one (pe_cmpR op_ge (pe_ix (ix_tupK (K := K) rfl) (pe_cal (cal_month_with T) (hr.mono (by decide)) (pa_cons (pv 0) (pa_cons (pe_ix (ix_tupK (K := K) rfl) (pv 2) pe_int (fun _ _ => rfl)) (pa_cons pe_int pa_nil)))) pe_int (fun _ _ => rfl)) (pe_ix (ix_tupK (K := K) rfl) (pv 2) pe_int (fun _ _ => rfl)) (nomark _))))))
      pss_nil)
      (pss_cons (ps_if (PW.pt (pw_or (pt_cmpR op_ne (pe_ix (ix_tupK (K := K) rfl) (pv 2) pe_int (fun _ _ => rfl)) (pe_gS T.k_ENDS) (nomark _)) (pw_or (pt_not (pt_val (pe_cal (cal_is_list T) (hr.mono (by decide)) (pa_cons (pe_ix (ix_tupK (K := K) rfl) (pv 2) pe_int (fun _ _ => rfl)) pa_nil)))) (pw_or1 (pt_not (pt_val (pe_callB (cr_allK (K := K) rfl rfl) (by rfl) T.b_all (by decide +kernel) (pa_cons (pe_lc (own := [("one", 4)]) (g := gName 4) (tt := tYes) (by rfl) sc_is_evidence.nd (pi_listK (K := K) rfl (pe_ix (ix_tupK (K := K) rfl) (pv 2) pe_int (fun _ _ => rfl))) (blkOk_by (own := [("one", 4)]) (N := ["plan", "balance", "value", "row", "one"]) (sc := defScope sd_is_evidence) (by decide +kernel)) (fun _ _ _ _ _ => (pg_name (i := 4) sc_is_evidence.nd rfl (Or.inl rfl))) (fun _ _ _ _ _ => pts_nil) (fun _ _ _ _ _ => (pe_cal (cal_is_number T) (hr.mono (by decide)) (pa_cons (pv 4) pa_nil)))) pa_nil))))))))
      (pss_one (ps_ret pe_bl))
      pss_nil)
      (pss_cons (ps_set (i := 3) sc_is_evidence.nd rfl (Or.inl rfl) (pe_cal (cal_row_with T) (hr.mono (by decide)) (pa_cons (pv 0) (pa_cons (pv 1) (pa_cons pe_int pa_nil)))))
      (pss_one (ps_ret (pe_and (pe_cmpR op_eq (pe_ix (ix_listK (K := K) rfl) (pv 3) (pe_un un_neg pe_int) (fun _ _ => rfl)) pe_int (nomark _)) (pe_one (pe_cmpR (op_eqDK (K := K) rfl hr.units) (pe_callTy (call_listK (K := K) rfl) (by rfl) T.b_list (by decide +kernel) (pa_cons (pe_ix (ix_tupK (K := K) rfl) (pv 2) pe_int (fun _ _ => rfl)) pa_nil)) (pv 3) (nomark _))))))))))), ?_⟩
    try dsimp only [cxOf, Cx.nox]
    refine g_start (σ' := [some _, some _, some _, none, none]) rfl ?_
    have N := nice hp.1 (Int.le_refl 0)
    have hlen := row_len N b h1
    have hshape : SeqAt.shaped (.list ((row (p.nxt 0) b).map .int)) = true := shaped_ints _
    rcases hev with ⟨hpos, ht⟩ | ⟨hz, l, ht, hl⟩
    · have hle := lst_le N b h1
      have hge := lst_pos N b h1 hpos
      k_subL
      refine c_monthWith hp fun q H1 hn s1 hq => ?_
      k_subL
      rw [decide_eq_true hge]
      exact k H1 s1
    · k_subL
      refine ⟨l, _, rfl, hl, fun H1 s1 => ?_⟩
      k_subL
      refine lcL_ints (sqL (s1.get hl)) (fun x => .bl true) (by omega) ?_ ?_
      · intro z hz H2 s2 kk hk
        k_subL
        exact ⟨z, rfl, hk _ (Same.refl _)⟩
      · intro D H2 hD s2 hD2
        k_subL
        refine g_all (bs := (row (p.nxt 0) b).map fun _ => true) (sqL (by rw [hD2, List.map_map]; rfl)) ?_
        k_subL
        refine g_itF (by simp) ?_
        k_subL
        refine c_rowWith ((hp.same s1).same s2) h1 h2 (Int.le_refl 0) fun q H3 hn s3 hq => ?_
        k_subL
        refine g_ixL (sqL hq) (row_at _ N.nn b) ?_
        k_subL
        refine g_listL (sqL (s3.get (s2.get (s1.get hl)))) fun q2 H4 hn4 s4 hq4 => ?_
        k_subL
        refine g_eqD (Dp.ints (sqL hq4)) (Dp.ints (sqL (s4.get hq))) hshape hshape (eqv_ints _) ?_
        exact k H4 (((s1.trans s2).trans s3).trans s4)
theorem cal_is_evidence (T : TX K mg base) : Cal P w K mg base 4 "is_evidence" ["plan", "balance", "value"] [] (spIsEvidence K) := (cal0_is_evidence T).cal (T.d_is_evidence) T.g_is_evidence
end
end Pr
namespace Pr
open PySem PySem.Spec PyProof.Rows L2 Wb M78
local macro_rules | `(tactic| k_ownIn) => `(tactic| k_dflt rfl)
local macro_rules | `(tactic| k_clsL) => `(tactic| (dsimp only [wipe, List.map_cons, List.map_nil, List.set_cons_zero, List.set_cons_succ] <;> exact rfl))
local macro_rules | `(tactic| k_memK) => `(tactic| with_reducible first
  | assumption
  | (refine Same.get (by assumption) ?_; k_memK))
local macro_rules | `(tactic| k_updF) => `(tactic| with_reducible first | exact sqT (by k_memK) | assumption | (refine Same.tup (by assumption) ?_; k_updF))
local macro_rules | `(tactic| k_offL) => `(tactic| first | exact Nat.le_of_ble_eq_true rfl | (simp only [List.length_append, List.length_cons, List.length_nil, List.length_map]; exact Nat.le_trans (by omega) (by decide : 1000000 ≤ sizeLine)))
local macro_rules | `(tactic| k_intsEnd) => `(tactic| k_dflt first | exact Or.inl ⟨by omega, by omega⟩ | exact Or.inr ⟨by omega, by omega⟩ | exact ⟨by omega, by omega⟩ | (show (0 : Int) < _; omega) | exact ⟨by decide, by decide, by decide⟩)
local macro_rules | `(tactic| k_upd) => `(tactic| first | with_reducible rfl | with_reducible exact Bool.not_true | with_reducible exact Bool.not_false | (with_reducible refine decide_eq_true ?_; (k_dflt first | assumption | omega)) | (with_reducible refine decide_eq_false ?_; (k_dflt first | assumption | omega)) | with_reducible assumption | (law_purse 300 => k_dflt rfl) | (law_purse 20000 => (simp only [Bool.not_eq_eq_eq_not, Bool.not_true, Bool.not_false, beq_eq_false_iff_ne, bne_iff_ne, ne_eq, beq_iff_eq, decide_eq_true_eq, decide_eq_false_iff_not, beq_true, beq_false, Bool.false_beq, Bool.true_beq, Bool.not_not]; omega)))
local macro_rules | `(tactic| k_places) => `(tactic| with_reducible first
  | refine g_var (by k_ownIn) ?_
  | refine g_c ?_
  | refine g_op ?_
  | refine g_cons ?_
  | refine g_nil ?_
  | refine g_call ?_
  | refine g_CB ?_
  | refine g_rI0 ?_
  | refine g_sAsg ?_
  | refine g_nameN (by k_clsL) ?_
  | refine g_sIf ?_
  | refine g_ret ?_
  | refine g_asg ?_
  | refine g_ifS ?_
  | refine g_nx ?_
  | refine g_rt ?_
  | refine g_test ?_
  | refine g_tB ?_
  | refine g_exB ?_
  | refine g_exI ?_
  | refine g_eqI ?_
  | refine g_neI ?_
  | refine g_eqS ?_
  | refine g_neS ?_
  | refine g_eqB ?_
  | refine g_neB ?_
  | refine g_isNr ?_
  | refine g_notNr ?_
  | refine g_isNi ?_
  | refine g_notNi ?_
  | refine g_isNb ?_
  | refine g_notNb ?_
  | refine g_isNs ?_
  | refine g_notNs ?_
  | refine g_isNn ?_
  | refine g_notNn ?_
  | refine g_and ?_
  | refine g_or ?_
  | refine g_not ?_
  | refine g_andV ?_
  | refine g_orV ?_
  | refine g_notV ?_
  | refine g_if ?_
  | refine g_itT (by k_upd) ?_
  | refine g_itF (by k_upd) ?_
  | refine g_chain ?_
  | refine g_un ?_
  | refine g_rU ?_
  | refine g_fld ?_
  | refine g_exF (by k_memK) (by assumption) (by assumption) (by k_ownIn) ?_
  | refine g_meth ?_
  | refine g_prop ?_
  | refine g_exP (by k_memK) ?_
  | refine g_exM (by k_memK) (by k_ownIn) ?_
  | refine g_tup ?_
  | refine g_lst ?_
  | refine g_ixT (by k_updF) (by k_ownIn) ?_
  | refine g_gTup (by k_updF) (by k_ownIn) ?_
  | refine g_gCons ?_
  | refine g_gNil ?_
  | refine g_sDrop ?_
  | refine g_drop ?_
  | refine g_sAug (by k_ownIn) ?_
  | refine g_aug (by k_ownIn) ?_
  | refine g_sPar ?_
  | refine g_par ?_
  | refine g_ex2 ?_
  | refine g_next ?_
  | refine g_retS ?_
  | refine g_is_int_int ?_
  | refine g_is_int_bool ?_
  | refine g_is_bl_bool ?_
  | refine g_is_bl_int ?_
  | refine g_is_str_str ?_
  | refine g_is_int_str ?_
  | refine g_is_str_int ?_
  | refine g_is_str_bool ?_
  | refine g_is_bl_str ?_
  | refine g_is_lst_list (by k_memK) ?_
  | refine g_is_lst_tuple (by k_memK) ?_
  | refine g_is_lst_dict (by k_memK) ?_
  | refine g_is_tup_list (by k_memK) ?_
  | refine g_is_tup_tuple (by k_memK) ?_
  | refine g_is_tup_dict (by k_memK) ?_
  | refine g_is_dK_list (by k_memK) ?_
  | refine g_is_dK_tuple (by k_memK) ?_
  | refine g_is_dK_dict (by k_memK) ?_
  | refine g_is_dT_list (by k_memK) ?_
  | refine g_is_dT_tuple (by k_memK) ?_
  | refine g_is_dT_dict (by k_memK) ?_
  | refine g_isiC (by assumption) (by k_memK) ?_
  | refine g_forL ?_
  | refine g_forR1 ?_
  | refine g_forT ?_
  | refine g_lcL ?_
  | refine g_sFld ?_
  | refine g_ssFld ?_
  | refine g_dget ?_
  | refine g_sDput ?_
  | refine g_ssDput ?_
  | refine g_BM ?_
  | refine g_BM0 ?_
  | refine g_tyL (sqL (by k_memK)) ?_
  | refine g_tyS ?_
  | refine g_lenL (sqL (by k_memK)) ?_
  | refine g_lenT (sqT (by k_memK)) ?_
  | refine g_max ?_
  | refine g_min ?_
  | refine g_intI ?_
  | refine g_intB ?_
  | refine g_sl ?_
  | refine g_noPart ?_
  | refine g_part ?_
  | refine g_rI (by k_intsEnd) ?_
  | refine g_wipe (by k_ownIn) ?_
  | refine g_make ?_
  | refine g_seq ?_)
local macro_rules | `(tactic| k_subL) => `(tactic| repeat (k_places))

local macro_rules | `(tactic| k_places) => `(tactic| with_reducible refine c_isNumberIn (by k_dflt omega) (by k_dflt omega) ?_)
local macro_rules | `(tactic| k_allIn) => `(tactic| with_reducible first
  | assumption
  | (refine PlanAt.same (by assumption) ?_; k_allIn))
local macro_rules | `(tactic| k_places) => `(tactic| with_reducible refine c_needPlan (by k_allIn) ?_)
local macro_rules | `(tactic| k_places) => `(tactic| with_reducible refine c_needBalance (by k_allIn) (by k_dflt omega) (by k_dflt omega) ?_)

section
variable {P : Program} {w : World} {K : PySem.W.Frag} {mg : Str → Option Value} {base : Heap}
def spRate (K : PySem.W.Frag) : Sp := fun vs H Q _ => ∃ a p, vs = [.ref a] ∧ PlanAt K H a p ∧ Q (.int p.rate) H
theorem cal_Plan_D_rate (T : TX K mg base) : CalA P w K mg base 1 (pgA "Plan" "rate" K) ["self"] [] (spRate K) := by
  refine cal_mk (k := 0) (T.d_Plan_D_rate) rfl sc_Plan_D_rate (fun _ _ _ _ _ _ us hl => match us, hl with | [_], _ => rfl) (fun vs H Q E h => ?_) (fun cdv A outer s H vs Q E hr h => ?_)
  · obtain ⟨_, _, rfl, _⟩ := h; rfl
  · have hu := hu_of hr
    clear hu
    obtain ⟨a, p, rfl, ⟨ok, dx, t, h1, h2⟩, k⟩ := h
    have cP := T.c_Plan
    have nP := T.n_Plan_l_parts
    refine ⟨_, (pss_one (ps_ret (pe_ix (ix_tupK (K := K) rfl) (pe_fldK (K := K) rfl (pv 0)) pe_int (fun _ _ => rfl)))), ?_⟩
    try dsimp only [cxOf, Cx.nox]
    refine g_start (σ' := [some _]) rfl ?_
    k_subL
    exact k
def spShare (K : PySem.W.Frag) : Sp := fun vs H Q _ => ∃ a p, vs = [.ref a] ∧ PlanAt K H a p ∧ Q (.int p.share) H
theorem cal_Plan_D_share (T : TX K mg base) : CalA P w K mg base 1 (pgA "Plan" "share" K) ["self"] [] (spShare K) := by
  refine cal_mk (k := 0) (T.d_Plan_D_share) rfl sc_Plan_D_share (fun _ _ _ _ _ _ us hl => match us, hl with | [_], _ => rfl) (fun vs H Q E h => ?_) (fun cdv A outer s H vs Q E hr h => ?_)
  · obtain ⟨_, _, rfl, _⟩ := h; rfl
  · have hu := hu_of hr
    clear hu
    obtain ⟨a, p, rfl, ⟨ok, dx, t, h1, h2⟩, k⟩ := h
    have cP := T.c_Plan
    have nP := T.n_Plan_l_parts
    refine ⟨_, (pss_one (ps_ret (pe_ix (ix_tupK (K := K) rfl) (pe_fldK (K := K) rfl (pv 0)) pe_int (fun _ _ => rfl)))), ?_⟩
    try dsimp only [cxOf, Cx.nox]
    refine g_start (σ' := [some _]) rfl ?_
    k_subL
    exact k
def spFirstWith (K : PySem.W.Frag) : Sp := fun vs H Q _ => ∃ a p i, vs = [.ref a, .int i] ∧ PlanAt K H a p ∧ 0 < p.rate ∧ Q (.int (firstWith p i)) H
theorem cal0_first_with (T : TX K mg base) : CalA P w K mg base 3 (He.ga K "first_with") ["plan", "interest"] [] (spFirstWith K) := by
  refine cal_mk (k := 2) (T.d_first_with) rfl sc_first_with (fun _ _ _ _ _ _ us hl => match us, hl with | [_, _], _ => rfl) (fun vs H Q E h => ?_) (fun cdv A outer s H vs Q E hr h => ?_)
  · obtain ⟨_, _, _, rfl, _⟩ := h; rfl
  · have hu := hu_of hr
    clear hu
    obtain ⟨a, p, i, rfl, ⟨ok, dx, t, h1, h2⟩, hrt, k⟩ := h
    have := ok.r1
    refine ⟨_, (pss_one (ps_ret (pe_un un_neg (pe_op op_fdiv (pe_op op_mul (pe_un un_neg (pv 1)) (pe_gI T.k_THOUSAND)) (pe_pcal (cal_Plan_D_rate T) T.c_Plan T.p_Plan_rate (hr.mono (by decide)) (pv 0)))))), ?_⟩
    try dsimp only [cxOf, Cx.nox]
    refine g_start (σ' := [some _, some _]) rfl ?_
    k_subL
    refine ⟨a, p, rfl, ⟨ok, dx, t, h1, h2⟩, ?_⟩
    k_subL
    have e : -i * 1000 = -(i * 1000) := Int.neg_mul _ _
    rw [e]
    exact k
theorem cal_first_with (T : TX K mg base) : Cal P w K mg base 3 "first_with" ["plan", "interest"] [] (spFirstWith K) := (cal0_first_with T).cal (T.d_first_with) T.g_first_with
theorem c_firstWith {a : Addr} {p : Pl} {i : Int} {H : Hp} {Q : VK} {E : XK} (h : PlanAt K H a p) (h1 : 0 < p.rate) (k : Q (.int (firstWith p i)) H) : spFirstWith K ([.ref a, .int i] ++ []) H Q E := ⟨a, p, i, rfl, h, h1, k⟩
local macro_rules | `(tactic| k_places) => `(tactic| with_reducible refine c_firstWith (by k_allIn) (by assumption) ?_)
def optV : Option Int → V
  | none => .non
  | some i => .int i
def spLeastEndless (K : PySem.W.Frag) : Sp := fun vs H Q _ => ∃ a p, vs = [.ref a] ∧ PlanAt K H a p ∧ ∀ o, LE p o → Q (optV o) H
theorem cal0_least_endless (T : TX K mg base) : CalA P w K mg base 4 (He.ga K "least_endless") ["plan"] [] (spLeastEndless K) := by
  refine cal_mk (k := 3) (T.d_least_endless) rfl sc_least_endless (fun _ _ _ _ _ _ us hl => match us, hl with | [_], _ => rfl) (fun vs H Q E h => ?_) (fun cdv A outer s H vs Q E hr h => ?_)
  · obtain ⟨_, _, rfl, _⟩ := h; rfl
  · have hu := hu_of hr
    clear hu
    obtain ⟨a, p, rfl, hp, k⟩ := h
    have hpp := hp
    obtain ⟨ok, dx, t, h1, h2⟩ := hpp
    have cP := T.c_Plan
    have nP := T.n_Plan_l_parts
    have := ok.r0; have := ok.r1; have := ok.s0; have := ok.s1; have := ok.l0; have := ok.l1
    refine ⟨_, (pss_cons (ps_expr (pe_cal (cal_need_plan T) (hr.mono (by decide)) (pa_cons (pv 0) pa_nil)))
      (pss_cons (ps_asg (pe_fldK (K := K) rfl (pv 0)) (pg_tupK (K := K) rfl rfl (pgs_cons (pg_name (i := 1) sc_least_endless.nd rfl (Or.inl rfl)) (pgs_cons (pg_name (i := 2) sc_least_endless.nd rfl (Or.inl rfl)) (pgs_cons (pg_name (i := 3) sc_least_endless.nd rfl (Or.inl rfl)) (pgs_cons (pg_name (i := 4) sc_least_endless.nd rfl (Or.inl rfl)) pgs_nil))))))
      (pss_cons (ps_if (pt_cmpR op_eq (pv 1) pe_int (nomark _))
      (pss_one (ps_ret pe_non))
      pss_nil)
      (pss_cons (ps_set (i := 5) sc_least_endless.nd rfl (Or.inl rfl) (pe_cal (cal_first_with T) (hr.mono (by decide)) (pa_cons (pv 0) (pa_cons (pv 3) pa_nil))))
      (pss_cons (ps_if (pt_val (pv 4))
      (pss_one (ps_ret (pe_ifExp (pt_cmpR op_lt (pe_op op_mul (pv 5) (pv 2)) (pe_gI T.k_THOUSAND) (nomark _)) (pv 5) pe_non)))
      pss_nil)
      (pss_cons (ps_set (i := 6) sc_least_endless.nd rfl (Or.inl rfl) (pe_op op_sub (pe_op op_mul (pv 2) (pe_op op_add (pe_gI T.k_THOUSAND) (pv 1))) (pe_op op_mul (pe_gI T.k_THOUSAND) (pv 1))))
      (pss_cons (ps_if (pt_cmpR op_le (pv 6) pe_int (nomark _))
      (pss_one (ps_ret (pv 5)))
      pss_nil)
      (pss_cons (ps_set (i := 7) sc_least_endless.nd rfl (Or.inl rfl) (pv 3))
      (pss_cons (ps_while PassesOwn.never (pt_cmpR op_lt (pe_op op_mul (pv 7) (pv 6)) (pe_op op_mul (pe_gI T.k_THOUSAND) (pv 1)) (nomark _))
      (pss_cons (ps_set (i := 5) sc_least_endless.nd rfl (Or.inl rfl) (pe_cal (cal_first_with T) (hr.mono (by decide)) (pa_cons (pv 0) (pa_cons (pv 7) pa_nil))))
      (pss_cons (ps_if (pt_cmpR op_le (pe_op op_fdiv (pe_op op_mul (pe_op op_add (pv 5) (pv 7)) (pv 2)) (pe_gI T.k_THOUSAND)) (pv 7) (nomark _))
      (pss_one (ps_ret (pv 5)))
      pss_nil)
      (pss_one (ps_aug (i := 7) sc_least_endless.nd rfl (Or.inl rfl) pe_int ip_add)))))
      (pss_one (ps_ret pe_non))))))))))), ?_⟩
    try dsimp only [cxOf, Cx.nox]
    refine g_start (σ' := [some _, none, none, none, none, none, none, none]) rfl ?_
    k_subL
    refine g_itD (fun hrt => ?_) (fun hrt => ?_)
    · k_subL
      exact k none (le_rate0 ok hrt)
    · have hrt : 0 < p.rate := by omega
      k_subL
      refine g_it2 (fun hpl => ?_) (fun hpl => ?_)
      · k_subL
        have z := le_plus ok hrt hpl
        refine g_itD (fun hc => ?_) (fun hc => ?_)
        · rw [if_pos hc] at z
          k_subL
          exact k _ z
        · rw [if_neg hc] at z
          k_subL
          exact k _ z
      · k_subL
        refine g_itD (fun ho => ?_) (fun ho => ?_)
        · k_subL
          exact k _ (le_found ok hrt hpl (Int.le_refl _) (good_low ok hrt ho (by omega)) (fun j h1 h2 => absurd h1 (by omega)))
        · have hb1 : p.share * (1000 + p.rate) ≤ 1000 * (1000 + p.rate) := mul_mono ok.s1 (by omega)
          generalize hov : p.share * (1000 + p.rate) - 1000 * p.rate = ov at *
          have hb2 : ov ≤ 2000000 := by omega
          clear hb1
          k_subL
          refine g_while (fun m σ H' => ∃ i bv, m = (1000 * p.rate - i * ov).toNat ∧ p.least ≤ i ∧ (∀ j, p.least ≤ j → j < i → ¬ Good p j) ∧ H' = H ∧
            σ = [some (.ref a), some (.int p.rate), some (.int p.share), some (.int p.least), some (.bl p.plus), some (.int bv), some (.int ov), some (.int i)]) _ ⟨p.least, _, rfl, Int.le_refl _, fun j h1 h2 => absurd h1 (by omega), rfl, rfl⟩ ?_
          rintro m σ H' ⟨i, bv, rfl, hi, hno, rfl, rfl⟩
          k_subL
          refine g_itD (fun hlt => ?_) (fun hlt => ?_)
          · refine g_wN ?_
            k_subL
            refine g_itD (fun hg => ?_) (fun hg => ?_)
            · k_subL
              exact k _ (le_found ok hrt hpl hi hg hno)
            · k_subL
              refine ⟨_, _, rfl, rfl, ?_⟩
              refine ⟨_, ?_, i + 1, _, rfl, by omega, fun j h1 h2 => ?_, rfl, rfl⟩
              · rw [Int.add_mul]; omega
              · by_cases e : j = i
                · subst e; exact hg
                · exact hno j h1 (by omega)
          · k_subL
            refine k none (le_none ok hrt hpl fun j hj => ?_)
            by_cases q : j < i
            · exact hno j hj q
            · have := mul_mono (a := i) (b := j) (s := ov) (by omega) (by omega)
              exact good_high ok hrt (by rw [hov]; omega)
theorem cal_least_endless (T : TX K mg base) : Cal P w K mg base 4 "least_endless" ["plan"] [] (spLeastEndless K) := (cal0_least_endless T).cal (T.d_least_endless) T.g_least_endless
def spGreatestTo (K : PySem.W.Frag) : Sp := fun vs H Q _ => ∃ a p b, vs = [.ref a, .int b] ∧ PlanAt K H a p ∧ p.share ≤ 999 ∧ 0 ≤ b ∧
  ∀ G H', 0 ≤ G → p.nxt 0 G ≤ b → (∀ x, G < x → b < p.nxt 0 x) → Same H H' → Q (.int G) H'
theorem cal0_greatest_to (T : TX K mg base) : CalA P w K mg base 2 (He.ga K "greatest_to") ["plan", "bound"] [] (spGreatestTo K) := by
  refine cal_mk (k := 1) (T.d_greatest_to) rfl sc_greatest_to (fun _ _ _ _ _ _ us hl => match us, hl with | [_, _], _ => rfl) (fun vs H Q E h => ?_) (fun cdv A outer s H vs Q E hr h => ?_)
  · obtain ⟨_, _, _, rfl, _⟩ := h; rfl
  · have hu := hu_of hr
    clear hu
    obtain ⟨a, p, b, rfl, hp, hs, hb, k⟩ := h
    refine ⟨_, (pss_cons (ps_par (i := 2) (j := 3) (by rfl) sc_greatest_to.nd rfl rfl (by decide) rfl rfl (pa_cons (pv 1) (pa_cons (pe_op op_add (pv 1) pe_int) pa_nil)) (by rfl))
      (pss_cons (ps_while PassesOwn.never (pt_cmpR op_le (pe_ix (ix_tupK (K := K) rfl) (pe_cal (cal_month_with T) (hr.mono (by decide)) (pa_cons (pv 0) (pa_cons (pv 3) (pa_cons pe_int pa_nil)))) pe_int (fun _ _ => rfl)) (pv 1) (nomark _))
      (pss_one (ps_par (i := 2) (j := 3) (by rfl) sc_greatest_to.nd rfl rfl (by decide) rfl rfl (pa_cons (pv 3) (pa_cons (pe_op op_mul pe_int (pv 3)) pa_nil)) (by rfl))))
      (pss_cons (ps_if (pt_cmpR op_gt (pe_ix (ix_tupK (K := K) rfl) (pe_cal (cal_month_with T) (hr.mono (by decide)) (pa_cons (pv 0) (pa_cons (pv 2) (pa_cons pe_int pa_nil)))) pe_int (fun _ _ => rfl)) (pv 1) (nomark _))
      (pss_one (ps_par (i := 2) (j := 3) (by rfl) sc_greatest_to.nd rfl rfl (by decide) rfl rfl (pa_cons pe_int (pa_cons (pv 2) pa_nil)) (by rfl)))
      pss_nil)
      (pss_cons (ps_while PassesOwn.never (pt_cmpR op_gt (pe_op op_sub (pv 3) (pv 2)) pe_int (nomark _))
      (pss_cons (ps_set (i := 4) sc_greatest_to.nd rfl (Or.inl rfl) (pe_op op_fdiv (pe_op op_add (pv 2) (pv 3)) pe_int))
      (pss_one (ps_if (pt_cmpR op_le (pe_ix (ix_tupK (K := K) rfl) (pe_cal (cal_month_with T) (hr.mono (by decide)) (pa_cons (pv 0) (pa_cons (pv 4) (pa_cons pe_int pa_nil)))) pe_int (fun _ _ => rfl)) (pv 1) (nomark _))
      (pss_one (ps_set (i := 2) sc_greatest_to.nd rfl (Or.inl rfl) (pv 4)))
      (pss_one (ps_set (i := 3) sc_greatest_to.nd rfl (Or.inl rfl) (pv 4)))))))
      (pss_one (ps_ret (pv 2))))))), ?_⟩
    try dsimp only [cxOf, Cx.nox]
    refine g_start (σ' := [some _, some _, none, none, none]) rfl ?_
    have ok := hp.1
    have N := nice ok (Int.le_refl 0)
    k_subL
    refine g_while (fun m σ H' => ∃ lo hi mv, m = (1000 * (b + 1) + p.least - hi).toNat ∧ 0 ≤ lo ∧ 1 ≤ hi ∧ Same H H' ∧ σ = [some (.ref a), some (.int b), some (.int lo), some (.int hi), mv]) _ ⟨b, b + 1, none, rfl, hb, by omega, Same.refl _, rfl⟩ ?_
    rintro m σ H1 ⟨lo, hi, mv, rfl, hlo, hhi, s1, rfl⟩
    k_subL
    refine c_monthWith (hp.same s1) fun q H2 hn s2 hq => ?_
    k_subL
    refine g_itD (fun hc => ?_) (fun hc => ?_)
    · refine g_wN ?_
      k_subL
      have hfar : ¬ (1000 * (b + 1) + p.least ≤ hi) := fun z => by
        have := nxt_far ok hs hb z
        omega
      exact ⟨_, by omega, hi, 2 * hi, mv, rfl, by omega, by omega, s1.trans s2, rfl⟩
    · k_subL
      refine c_monthWith ((hp.same s1).same s2) fun q2 H3 hn3 s3 hq3 => ?_
      k_subL
      -- the second loop, from both ways
      have loop : ∀ lo hi mv H4, 0 ≤ lo → p.nxt 0 lo ≤ b → b < p.nxt 0 hi → Same H H4 →
          tWhile (tTest (tOp (rI0 fun i j => V.bl (decide (j < i))) (tOp (rI0 fun i j => V.int (i - j)) (tVar 3) (tVar 2)) (tC (V.int 1))))
            (tSeq (tAsg (tOp (rI CDiv fun i j => V.int (i / j)) (tOp (rI0 fun i j => V.int (i + j)) (tVar 2) (tVar 3)) (tC (V.int 2))) (gName 4))
              (tIfS (tTest (tOp (rI0 fun i j => V.bl (decide (i ≤ j))) (tOp (rIxT K) (tCall (spMonthWith K) [] E0 (tCons (tVar 0) (tCons (tVar 4) (tCons (tC (V.int 0)) tNil)))) (tC (V.int 2))) (tVar 1)))
                (tAsg (tVar 4) (gName 2)) (tAsg (tVar 4) (gName 3)))) { nx := fun σ H' => tRet (tVar 2) { nx := fun x H' => Q V.non H', rt := Q } σ H', rt := Q } [some (.ref a), some (.int b), some (.int lo), some (.int hi), mv] H4 := by
        intro lo hi mv H4 g1 g2 g3 g4
        refine g_while (fun m σ H' => ∃ lo hi mv, m = (hi - lo).toNat ∧ 0 ≤ lo ∧ p.nxt 0 lo ≤ b ∧ b < p.nxt 0 hi ∧ Same H H' ∧ σ = [some (.ref a), some (.int b), some (.int lo), some (.int hi), mv]) _ ⟨lo, hi, mv, rfl, g1, g2, g3, g4, rfl⟩ ?_
        rintro m σ H1 ⟨lo, hi, mv, rfl, hlo, h1, h2, s1, rfl⟩
        have hlt : lo < hi := by
          by_cases z : lo < hi
          · exact z
          · have := N.mono hi lo (by omega); omega
        k_subL
        refine g_itD (fun hc => ?_) (fun hc => ?_)
        · refine g_wN ?_
          k_subL
          refine c_monthWith (hp.same s1) fun q H2 hn s2 hq => ?_
          k_subL
          refine g_itD (fun hd => ?_) (fun hd => ?_)
          · k_subL
            exact ⟨_, by omega, (lo + hi) / 2, hi, _, rfl, by omega, hd, h2, s1.trans s2, rfl⟩
          · k_subL
            exact ⟨_, by omega, lo, (lo + hi) / 2, _, rfl, hlo, h1, by omega, s1.trans s2, rfl⟩
        · k_subL
          refine k lo H1 hlo h1 (fun x hx => ?_) s1
          have := N.mono hi x (by omega)
          omega
      refine g_itD (fun hd => ?_) (fun hd => ?_)
      · k_subL
        exact loop 0 lo mv H3 (Int.le_refl _) (by rw [N.z]; exact hb) hd ((s1.trans s2).trans s3)
      · k_subL
        exact loop lo hi mv H3 hlo (by omega) (by omega) ((s1.trans s2).trans s3)
theorem cal_greatest_to (T : TX K mg base) : Cal P w K mg base 2 "greatest_to" ["plan", "bound"] [] (spGreatestTo K) := (cal0_greatest_to T).cal (T.d_greatest_to) T.g_greatest_to
end
end Pr
namespace Pr
open PySem PySem.Spec PyProof.Rows L2 Wb M78
local macro_rules | `(tactic| k_ownIn) => `(tactic| k_dflt rfl)
local macro_rules | `(tactic| k_clsL) => `(tactic| (dsimp only [wipe, List.map_cons, List.map_nil, List.set_cons_zero, List.set_cons_succ] <;> exact rfl))
local macro_rules | `(tactic| k_memK) => `(tactic| with_reducible first
  | assumption
  | (refine Same.get (by assumption) ?_; k_memK))
local macro_rules | `(tactic| k_updF) => `(tactic| with_reducible first | exact sqT (by k_memK) | assumption | (refine Same.tup (by assumption) ?_; k_updF))
local macro_rules | `(tactic| k_offL) => `(tactic| first | exact Nat.le_of_ble_eq_true rfl | (simp only [List.length_append, List.length_cons, List.length_nil, List.length_map]; exact Nat.le_trans (by omega) (by decide : 1000000 ≤ sizeLine)))
local macro_rules | `(tactic| k_intsEnd) => `(tactic| k_dflt first | exact Or.inl ⟨by omega, by omega⟩ | exact Or.inr ⟨by omega, by omega⟩ | exact ⟨by omega, by omega⟩ | (show (0 : Int) < _; omega) | exact ⟨by decide, by decide, by decide⟩)
local macro_rules | `(tactic| k_upd) => `(tactic| first | with_reducible rfl | with_reducible exact Bool.not_true | with_reducible exact Bool.not_false | (with_reducible refine decide_eq_true ?_; (k_dflt first | assumption | omega)) | (with_reducible refine decide_eq_false ?_; (k_dflt first | assumption | omega)) | with_reducible assumption | (law_purse 300 => k_dflt rfl) | (law_purse 20000 => (simp only [Bool.not_eq_eq_eq_not, Bool.not_true, Bool.not_false, beq_eq_false_iff_ne, bne_iff_ne, ne_eq, beq_iff_eq, decide_eq_true_eq, decide_eq_false_iff_not, beq_true, beq_false, Bool.false_beq, Bool.true_beq, Bool.not_not]; omega)))
local macro_rules | `(tactic| k_places) => `(tactic| with_reducible first
  | refine g_var (by k_ownIn) ?_
  | refine g_c ?_
  | refine g_op ?_
  | refine g_cons ?_
  | refine g_nil ?_
  | refine g_call ?_
  | refine g_CB ?_
  | refine g_rI0 ?_
  | refine g_sAsg ?_
  | refine g_nameN (by k_clsL) ?_
  | refine g_sIf ?_
  | refine g_ret ?_
  | refine g_asg ?_
  | refine g_ifS ?_
  | refine g_nx ?_
  | refine g_rt ?_
  | refine g_test ?_
  | refine g_tB ?_
  | refine g_exB ?_
  | refine g_exI ?_
  | refine g_eqI ?_
  | refine g_neI ?_
  | refine g_eqS ?_
  | refine g_neS ?_
  | refine g_eqB ?_
  | refine g_neB ?_
  | refine g_isNr ?_
  | refine g_notNr ?_
  | refine g_isNi ?_
  | refine g_notNi ?_
  | refine g_isNb ?_
  | refine g_notNb ?_
  | refine g_isNs ?_
  | refine g_notNs ?_
  | refine g_isNn ?_
  | refine g_notNn ?_
  | refine g_and ?_
  | refine g_or ?_
  | refine g_not ?_
  | refine g_andV ?_
  | refine g_orV ?_
  | refine g_notV ?_
  | refine g_if ?_
  | refine g_itT (by k_upd) ?_
  | refine g_itF (by k_upd) ?_
  | refine g_chain ?_
  | refine g_un ?_
  | refine g_rU ?_
  | refine g_fld ?_
  | refine g_exF (by k_memK) (by assumption) (by assumption) (by k_ownIn) ?_
  | refine g_meth ?_
  | refine g_prop ?_
  | refine g_exP (by k_memK) ?_
  | refine g_exM (by k_memK) (by k_ownIn) ?_
  | refine g_tup ?_
  | refine g_lst ?_
  | refine g_ixT (by k_updF) (by k_ownIn) ?_
  | refine g_gTup (by k_updF) (by k_ownIn) ?_
  | refine g_gCons ?_
  | refine g_gNil ?_
  | refine g_sDrop ?_
  | refine g_drop ?_
  | refine g_sAug (by k_ownIn) ?_
  | refine g_aug (by k_ownIn) ?_
  | refine g_sPar ?_
  | refine g_par ?_
  | refine g_ex2 ?_
  | refine g_next ?_
  | refine g_retS ?_
  | refine g_is_int_int ?_
  | refine g_is_int_bool ?_
  | refine g_is_bl_bool ?_
  | refine g_is_bl_int ?_
  | refine g_is_str_str ?_
  | refine g_is_int_str ?_
  | refine g_is_str_int ?_
  | refine g_is_str_bool ?_
  | refine g_is_bl_str ?_
  | refine g_is_lst_list (by k_memK) ?_
  | refine g_is_lst_tuple (by k_memK) ?_
  | refine g_is_lst_dict (by k_memK) ?_
  | refine g_is_tup_list (by k_memK) ?_
  | refine g_is_tup_tuple (by k_memK) ?_
  | refine g_is_tup_dict (by k_memK) ?_
  | refine g_is_dK_list (by k_memK) ?_
  | refine g_is_dK_tuple (by k_memK) ?_
  | refine g_is_dK_dict (by k_memK) ?_
  | refine g_is_dT_list (by k_memK) ?_
  | refine g_is_dT_tuple (by k_memK) ?_
  | refine g_is_dT_dict (by k_memK) ?_
  | refine g_isiC (by assumption) (by k_memK) ?_
  | refine g_forL ?_
  | refine g_forR1 ?_
  | refine g_forT ?_
  | refine g_lcL ?_
  | refine g_sFld ?_
  | refine g_ssFld ?_
  | refine g_dget ?_
  | refine g_sDput ?_
  | refine g_ssDput ?_
  | refine g_BM ?_
  | refine g_BM0 ?_
  | refine g_tyL (sqL (by k_memK)) ?_
  | refine g_tyS ?_
  | refine g_lenL (sqL (by k_memK)) ?_
  | refine g_lenT (sqT (by k_memK)) ?_
  | refine g_max ?_
  | refine g_min ?_
  | refine g_intI ?_
  | refine g_intB ?_
  | refine g_sl ?_
  | refine g_noPart ?_
  | refine g_part ?_
  | refine g_rI (by k_intsEnd) ?_
  | refine g_wipe (by k_ownIn) ?_
  | refine g_make ?_
  | refine g_seq ?_)
local macro_rules | `(tactic| k_subL) => `(tactic| repeat (k_places))

local macro_rules | `(tactic| k_places) => `(tactic| with_reducible refine c_isNumberIn (by k_dflt omega) (by k_dflt omega) ?_)
local macro_rules | `(tactic| k_allIn) => `(tactic| with_reducible first
  | assumption
  | (refine PlanAt.same (by assumption) ?_; k_allIn))
local macro_rules | `(tactic| k_places) => `(tactic| with_reducible refine c_needPlan (by k_allIn) ?_)
local macro_rules | `(tactic| k_places) => `(tactic| with_reducible refine c_needBalance (by k_allIn) (by k_dflt omega) (by k_dflt omega) ?_)

section
variable {P : Program} {w : World} {K : PySem.W.Frag} {mg : Str → Option Value} {base : Heap}
def spMostWithin (K : PySem.W.Frag) : Sp := fun vs H Q _ => ∃ a p m, vs = [.ref a, .int m] ∧ PlanAt K H a p ∧ 1 ≤ m ∧ m ≤ 100 ∧
  (p.share = 1000 → Q .non H) ∧ (p.share ≤ 999 → ∀ F H', 0 ≤ F → (∀ b, 0 ≤ b → (b ≤ F ↔ EndsIn (p.nxt 0) m.toNat b)) → Same H H' → Q (.int F) H')
theorem cal0_most_within (T : TX K mg base) : CalA P w K mg base 3 (He.ga K "most_within") ["plan", "months"] [] (spMostWithin K) := by
  refine cal_mk (k := 2) (T.d_most_within) rfl sc_most_within (fun _ _ _ _ _ _ us hl => match us, hl with | [_, _], _ => rfl) (fun vs H Q E h => ?_) (fun cdv A outer s H vs Q E hr h => ?_)
  · obtain ⟨_, _, _, rfl, _⟩ := h; rfl
  · have hu := hu_of hr
    clear hu
    obtain ⟨a, p, m, rfl, hp, h1, h2, k1, k2⟩ := h
    refine ⟨_, (pss_cons (ps_expr (pe_cal (cal_need_plan T) (hr.mono (by decide)) (pa_cons (pv 0) pa_nil)))
      (pss_cons (ps_if (pt_not (pt_val (pe_cal (cal_is_number_in T) (hr.mono (by decide)) (pa_cons (pv 1) (pa_cons pe_int (pa_cons (pe_gI T.k_MOST_MONTHS) pa_nil))))))
      (pss_one ps_never)
      pss_nil)
      (pss_cons (ps_if (PW.pt (pw_and (pt_cmpR op_gt (pv 1) pe_int (nomark _)) (pw_and1 (pt_cmpR op_eq (pe_pcal (cal_Plan_D_share T) T.c_Plan T.p_Plan_share (hr.mono (by decide)) (pv 0)) (pe_gI T.k_THOUSAND) (nomark _)))))
      (pss_one (ps_ret pe_non))
      pss_nil)
      (pss_cons (ps_set (i := 2) sc_most_within.nd rfl (Or.inl rfl) pe_int)
      (pss_cons (ps_for PassesOwn.never rfl (pi_range1 rfl T.b_range (pa_cons (pv 1) pa_nil)) (pg_name (i := 3) sc_most_within.nd rfl (Or.inl rfl))
      (pss_one (ps_set (i := 2) sc_most_within.nd rfl (Or.inl rfl) (pe_cal (cal_greatest_to T) (hr.mono (by decide)) (pa_cons (pv 0) (pa_cons (pv 2) pa_nil))))))
      (pss_one (ps_ret (pv 2)))))))), ?_⟩
    try dsimp only [cxOf, Cx.nox]
    refine g_start (σ' := [some _, some _, none, none]) rfl ?_
    have ok := hp.1
    have N := nice ok (Int.le_refl 0)
    have := ok.s1
    obtain ⟨_, dx, t, g1, g2⟩ := id hp
    k_subL
    refine ⟨a, p, rfl, hp, ?_⟩
    k_subL
    refine g_itD (fun hs => ?_) (fun hs => ?_)
    · k_subL
      exact k1 hs
    · k_subL
      refine forR1_by (by omega) (fun i σ H' => ∃ F tv, σ = [some (.ref a), some (.int m), some (.int F), tv] ∧ 0 ≤ F ∧ (∀ b, 0 ≤ b → (b ≤ F ↔ EndsIn (p.nxt 0) i b)) ∧ Same H H') ⟨0, none, rfl, Int.le_refl _, fun b hb => by show b ≤ 0 ↔ b = 0; omega, Same.refl _⟩ ?_ ?_
      · rintro i σ H1 hi ⟨F, tv, rfl, hF, hE, s1⟩
        k_subL
        refine ⟨a, p, F, rfl, hp.same s1, by omega, hF, fun G H2 hG g1 g2 s2 => ?_⟩
        k_subL
        exact ⟨G, _, rfl, hG, endsIn_bound N hE hF g1 g2, s1.trans s2⟩
      · rintro σ H1 ⟨F, tv, rfl, hF, hE, s1⟩
        k_subL
        exact k2 (by omega) F H1 hF hE s1
theorem cal_most_within (T : TX K mg base) : Cal P w K mg base 3 "most_within" ["plan", "months"] [] (spMostWithin K) := (cal0_most_within T).cal (T.d_most_within) T.g_most_within
/-- a balance ends with an extra, in so many months where they are told -/
def Enough (p : Pl) (b : Int) (om : Option Int) (e : Int) : Bool := decide (lst (p.nxt e) b = 0) && (match om with
  | none => true
  | some m => decide (((row (p.nxt e) b).length : Int) - 1 ≤ m))
def spIsEnough (K : PySem.W.Frag) : Sp := fun vs H Q _ => ∃ a p b om e, vs = [.ref a, .int b, optV om, .int e] ∧ PlanAt K H a p ∧ 0 ≤ b ∧ b ≤ 100000 ∧ 0 ≤ e ∧ ∀ H', Same H H' → Q (.bl (Enough p b om e)) H'
theorem cal0_is_enough (T : TX K mg base) : CalA P w K mg base 3 (He.ga K "is_enough") ["plan", "balance", "months", "extra"] [] (spIsEnough K) := by
  refine cal_mk (k := 2) (T.d_is_enough) rfl sc_is_enough (fun _ _ _ _ _ _ us hl => match us, hl with | [_, _, _, _], _ => rfl) (fun vs H Q E h => ?_) (fun cdv A outer s H vs Q E hr h => ?_)
  · obtain ⟨_, _, _, _, _, rfl, _⟩ := h; rfl
  · have hu := hu_of hr
    clear hu
    obtain ⟨a, p, b, om, e, rfl, hp, h1, h2, h3, k⟩ := h
    refine ⟨_, (pss_cons (ps_set (i := 4) sc_is_enough.nd rfl (Or.inl rfl) (pe_cal (cal_row_with T) (hr.mono (by decide)) (pa_cons (pv 0) (pa_cons (pv 1) (pa_cons (pv 3) pa_nil)))))
      (pss_one (ps_ret (pe_and (pe_cmpR op_eq (pe_ix (ix_listK (K := K) rfl) (pv 4) (pe_un un_neg pe_int) (fun _ _ => rfl)) pe_int (nomark _)) (pe_one (pe_or (pe_cmpR op_isN' (pv 2) pe_non (nomark _)) (pe_one (pe_cmpR op_le (pe_op op_sub (pe_callB (call_lenK (K := K) rfl) (by rfl) T.b_len (by decide +kernel) (pa_cons (pv 4) pa_nil)) pe_int) (pv 2) (nomark _))))))))), ?_⟩
    try dsimp only [cxOf, Cx.nox]
    refine g_start (σ' := [some _, some _, some _, some _, none]) rfl ?_
    have N := nice hp.1 h3
    k_subL
    refine c_rowWith hp h1 h2 h3 fun q H1 hn s1 hq => ?_
    have k := k H1 s1
    unfold Enough at k
    k_subL
    refine g_ixL (sqL hq) (row_at _ N.nn b) ?_
    k_subL
    refine g_itD (fun hz => ?_) (fun hz => ?_)
    · rw [decide_eq_true hz, Bool.true_and] at k
      cases om with
      | none =>
        show tOrV _ _ [some (.ref a), some (.int b), some .non, some (.int e), some (.ref q)] H1 _
        k_subL
        exact k
      | some m =>
        show tOrV _ _ [some (.ref a), some (.int b), some (.int m), some (.int e), some (.ref q)] H1 _
        k_subL
        rw [List.length_map]
        exact k
    · rw [decide_eq_false hz, Bool.false_and] at k
      k_subL
      exact k
theorem cal_is_enough (T : TX K mg base) : Cal P w K mg base 3 "is_enough" ["plan", "balance", "months", "extra"] [] (spIsEnough K) := (cal0_is_enough T).cal (T.d_is_enough) T.g_is_enough
theorem c_isEnough {a : Addr} {p : Pl} {b e : Int} {om : Option Int} {v : V} {H : Hp} {Q : VK} {E : XK} (hv : v = optV om) (h : PlanAt K H a p) (h1 : 0 ≤ b) (h2 : b ≤ 100000) (h3 : 0 ≤ e) (k : ∀ H', Same H H' → Q (.bl (Enough p b om e)) H') : spIsEnough K ([.ref a, .int b, v, .int e] ++ []) H Q E := by
  subst hv
  exact ⟨a, p, b, om, e, rfl, h, h1, h2, h3, k⟩
def spLeastExtra (K : PySem.W.Frag) : Sp := fun vs H Q _ => ∃ a p b om, vs = [.ref a, .int b, optV om] ∧ PlanAt K H a p ∧ 0 ≤ b ∧ b ≤ 50000 ∧ (∀ m, om = some m → 1 ≤ m ∧ m ≤ 100) ∧
  ∀ x H', (x = 0 ↔ Enough p b om 0 = true) → Same H H' → Q (.int x) H'
theorem cal0_least_extra (T : TX K mg base) : CalA P w K mg base 4 (He.ga K "least_extra") ["plan", "balance", "months"] [] (spLeastExtra K) := by
  refine cal_mk (k := 3) (T.d_least_extra) rfl sc_least_extra (fun _ _ _ _ _ _ us hl => match us, hl with | [_, _, _], _ => rfl) (fun vs H Q E h => ?_) (fun cdv A outer s H vs Q E hr h => ?_)
  · obtain ⟨_, _, _, _, rfl, _⟩ := h; rfl
  · have hu := hu_of hr
    clear hu
    obtain ⟨a, p, b, om, rfl, hp, h1, h2, hm, k⟩ := h
    refine ⟨_, (pss_cons (ps_expr (pe_cal (cal_need_balance T) (hr.mono (by decide)) (pa_cons (pv 0) (pa_cons (pv 1) pa_nil))))
      (pss_cons (ps_if (PW.pt (pw_and (pt_cmpR op_notN' (pv 2) pe_non (nomark _)) (pw_and1 (pt_not (pt_val (pe_cal (cal_is_number_in T) (hr.mono (by decide)) (pa_cons (pv 2) (pa_cons pe_int (pa_cons (pe_gI T.k_MOST_MONTHS) pa_nil)))))))))
      (pss_one ps_never)
      pss_nil)
      (pss_cons (ps_if (pt_val (pe_cal (cal_is_enough T) (hr.mono (by decide)) (pa_cons (pv 0) (pa_cons (pv 1) (pa_cons (pv 2) (pa_cons pe_int pa_nil))))))
      (pss_one (ps_ret pe_int))
      pss_nil)
      (pss_cons (ps_par (i := 3) (j := 4) (by rfl) sc_least_extra.nd rfl rfl (by decide) rfl rfl (pa_cons pe_int (pa_cons (pe_op op_mul pe_int (pv 1)) pa_nil)) (by rfl))
      (pss_cons (ps_while PassesOwn.never (pt_cmpR op_gt (pe_op op_sub (pv 4) (pv 3)) pe_int (nomark _))
      (pss_cons (ps_set (i := 5) sc_least_extra.nd rfl (Or.inl rfl) (pe_op op_fdiv (pe_op op_add (pv 3) (pv 4)) pe_int))
      (pss_one (ps_if (pt_val (pe_cal (cal_is_enough T) (hr.mono (by decide)) (pa_cons (pv 0) (pa_cons (pv 1) (pa_cons (pv 2) (pa_cons (pv 5) pa_nil))))))
      (pss_one (ps_set (i := 4) sc_least_extra.nd rfl (Or.inl rfl) (pv 5)))
      (pss_one (ps_set (i := 3) sc_least_extra.nd rfl (Or.inl rfl) (pv 5)))))))
      (pss_one (ps_ret (pv 4)))))))), ?_⟩
    try dsimp only [cxOf, Cx.nox]
    refine g_start (σ' := [some _, some _, some _, none, none, none]) rfl ?_
    have hb0 : ¬ Enough p b om 0 = true → 0 < b := fun z => by
      by_cases q : 0 < b
      · exact q
      · refine absurd ?_ z
        have N := nice hp.1 (Int.le_refl 0)
        have e : b = 0 := by omega
        subst e
        unfold Enough
        rw [lst_stop N.nn (.inl (Int.le_refl _)), row_stop N.nn (.inl (Int.le_refl _))]
        cases om with
        | none => rfl
        | some m =>
          have := (hm m rfl).1
          simp; omega
    cases om with
    | none =>
      show tSeq _ _ _ [some (.ref a), some (.int b), some .non, none, none, none] H
      k_subL
      refine c_isEnough (om := none) rfl hp h1 (by omega) (Int.le_refl _) fun H2 s2 => ?_
      k_subL
      refine g_it2 (fun hE => ?_) (fun hE => ?_)
      · k_subL
        exact k 0 H2 ⟨fun _ => hE, fun _ => rfl⟩ s2
      · have hbp := hb0 (by rw [hE]; decide)
        k_subL
        refine g_while (fun mm σ H' => ∃ lo hi mv, mm = (hi - lo).toNat ∧ 0 ≤ lo ∧ lo < hi ∧ Same H H' ∧ σ = [some (.ref a), some (.int b), some .non, some (.int lo), some (.int hi), mv]) _ ⟨0, 2 * b, none, rfl, Int.le_refl _, by omega, s2, rfl⟩ ?_
        rintro mm σ H3 ⟨lo, hi, mv, rfl, hlo, hlt, s3, rfl⟩
        k_subL
        refine g_itD (fun hc => ?_) (fun hc => ?_)
        · refine g_wN ?_
          k_subL
          refine c_isEnough (om := none) rfl (hp.same s3) h1 (by omega) (by omega) fun H4 s4 => ?_
          k_subL
          refine g_it2 (fun hd => ?_) (fun hd => ?_)
          · k_subL
            exact ⟨_, by omega, lo, (lo + hi) / 2, _, rfl, hlo, by omega, s3.trans s4, rfl⟩
          · k_subL
            exact ⟨_, by omega, (lo + hi) / 2, hi, _, rfl, by omega, by omega, s3.trans s4, rfl⟩
        · k_subL
          exact k hi H3 ⟨fun z => absurd z (by omega), fun z => absurd z (by rw [hE]; decide)⟩ s3
    | some m =>
      obtain ⟨m1, m2⟩ := hm m rfl
      show tSeq _ _ _ [some (.ref a), some (.int b), some (.int m), none, none, none] H
      k_subL
      refine c_isEnough (om := some m) rfl hp h1 (by omega) (Int.le_refl _) fun H2 s2 => ?_
      k_subL
      refine g_it2 (fun hE => ?_) (fun hE => ?_)
      · k_subL
        exact k 0 H2 ⟨fun _ => hE, fun _ => rfl⟩ s2
      · have hbp := hb0 (by rw [hE]; decide)
        k_subL
        refine g_while (fun mm σ H' => ∃ lo hi mv, mm = (hi - lo).toNat ∧ 0 ≤ lo ∧ lo < hi ∧ Same H H' ∧ σ = [some (.ref a), some (.int b), some (.int m), some (.int lo), some (.int hi), mv]) _ ⟨0, 2 * b, none, rfl, Int.le_refl _, by omega, s2, rfl⟩ ?_
        rintro mm σ H3 ⟨lo, hi, mv, rfl, hlo, hlt, s3, rfl⟩
        k_subL
        refine g_itD (fun hc => ?_) (fun hc => ?_)
        · refine g_wN ?_
          k_subL
          refine c_isEnough (om := some m) rfl (hp.same s3) h1 (by omega) (by omega) fun H4 s4 => ?_
          k_subL
          refine g_it2 (fun hd => ?_) (fun hd => ?_)
          · k_subL
            exact ⟨_, by omega, lo, (lo + hi) / 2, _, rfl, hlo, by omega, s3.trans s4, rfl⟩
          · k_subL
            exact ⟨_, by omega, (lo + hi) / 2, hi, _, rfl, by omega, by omega, s3.trans s4, rfl⟩
        · k_subL
          exact k hi H3 ⟨fun z => absurd z (by omega), fun z => absurd z (by rw [hE]; decide)⟩ s3
theorem cal_least_extra (T : TX K mg base) : Cal P w K mg base 4 "least_extra" ["plan", "balance", "months"] [] (spLeastExtra K) := (cal0_least_extra T).cal (T.d_least_extra) T.g_least_extra
end
end Pr
namespace Pr
open PySem PySem.Spec PyProof.Rows L2 Wb
local macro_rules | `(tactic| k_ownIn) => `(tactic| k_dflt rfl)
local macro_rules | `(tactic| k_clsL) => `(tactic| (dsimp only [wipe, List.map_cons, List.map_nil, List.set_cons_zero, List.set_cons_succ] <;> exact rfl))
local macro_rules | `(tactic| k_memK) => `(tactic| with_reducible first
  | assumption
  | (refine Same.get (by assumption) ?_; k_memK))
local macro_rules | `(tactic| k_updF) => `(tactic| with_reducible first | exact sqT (by k_memK) | assumption | (refine Same.tup (by assumption) ?_; k_updF))
local macro_rules | `(tactic| k_offL) => `(tactic| first | exact Nat.le_of_ble_eq_true rfl | (simp only [List.length_append, List.length_cons, List.length_nil, List.length_map]; exact Nat.le_trans (by omega) (by decide : 1000000 ≤ sizeLine)))
local macro_rules | `(tactic| k_intsEnd) => `(tactic| k_dflt first | exact Or.inl ⟨by omega, by omega⟩ | exact Or.inr ⟨by omega, by omega⟩ | exact ⟨by omega, by omega⟩ | (show (0 : Int) < _; omega) | exact ⟨by decide, by decide, by decide⟩)
local macro_rules | `(tactic| k_upd) => `(tactic| first | with_reducible rfl | with_reducible exact Bool.not_true | with_reducible exact Bool.not_false | (with_reducible refine decide_eq_true ?_; (k_dflt first | assumption | omega)) | (with_reducible refine decide_eq_false ?_; (k_dflt first | assumption | omega)) | with_reducible assumption | (law_purse 300 => k_dflt rfl) | (law_purse 20000 => (simp only [Bool.not_eq_eq_eq_not, Bool.not_true, Bool.not_false, beq_eq_false_iff_ne, bne_iff_ne, ne_eq, beq_iff_eq, decide_eq_true_eq, decide_eq_false_iff_not, beq_true, beq_false, Bool.false_beq, Bool.true_beq, Bool.not_not]; omega)))
local macro_rules | `(tactic| k_places) => `(tactic| with_reducible first
  | refine g_var (by k_ownIn) ?_
  | refine g_c ?_
  | refine g_op ?_
  | refine g_cons ?_
  | refine g_nil ?_
  | refine g_call ?_
  | refine g_CB ?_
  | refine g_rI0 ?_
  | refine g_sAsg ?_
  | refine g_nameN (by k_clsL) ?_
  | refine g_sIf ?_
  | refine g_ret ?_
  | refine g_asg ?_
  | refine g_ifS ?_
  | refine g_nx ?_
  | refine g_rt ?_
  | refine g_test ?_
  | refine g_tB ?_
  | refine g_exB ?_
  | refine g_exI ?_
  | refine g_eqI ?_
  | refine g_neI ?_
  | refine g_eqS ?_
  | refine g_neS ?_
  | refine g_eqB ?_
  | refine g_neB ?_
  | refine g_isNr ?_
  | refine g_notNr ?_
  | refine g_isNi ?_
  | refine g_notNi ?_
  | refine g_isNb ?_
  | refine g_notNb ?_
  | refine g_isNs ?_
  | refine g_notNs ?_
  | refine g_isNn ?_
  | refine g_notNn ?_
  | refine g_and ?_
  | refine g_or ?_
  | refine g_not ?_
  | refine g_andV ?_
  | refine g_orV ?_
  | refine g_notV ?_
  | refine g_if ?_
  | refine g_itT (by k_upd) ?_
  | refine g_itF (by k_upd) ?_
  | refine g_chain ?_
  | refine g_un ?_
  | refine g_rU ?_
  | refine g_fld ?_
  | refine g_exF (by k_memK) (by assumption) (by assumption) (by k_ownIn) ?_
  | refine g_meth ?_
  | refine g_prop ?_
  | refine g_exP (by k_memK) ?_
  | refine g_exM (by k_memK) (by k_ownIn) ?_
  | refine g_tup ?_
  | refine g_lst ?_
  | refine g_ixT (by k_updF) (by k_ownIn) ?_
  | refine g_gTup (by k_updF) (by k_ownIn) ?_
  | refine g_gCons ?_
  | refine g_gNil ?_
  | refine g_sDrop ?_
  | refine g_drop ?_
  | refine g_sAug (by k_ownIn) ?_
  | refine g_aug (by k_ownIn) ?_
  | refine g_sPar ?_
  | refine g_par ?_
  | refine g_ex2 ?_
  | refine g_next ?_
  | refine g_retS ?_
  | refine g_is_int_int ?_
  | refine g_is_int_bool ?_
  | refine g_is_bl_bool ?_
  | refine g_is_bl_int ?_
  | refine g_is_str_str ?_
  | refine g_is_int_str ?_
  | refine g_is_str_int ?_
  | refine g_is_str_bool ?_
  | refine g_is_bl_str ?_
  | refine g_is_lst_list (by k_memK) ?_
  | refine g_is_lst_tuple (by k_memK) ?_
  | refine g_is_lst_dict (by k_memK) ?_
  | refine g_is_tup_list (by k_memK) ?_
  | refine g_is_tup_tuple (by k_memK) ?_
  | refine g_is_tup_dict (by k_memK) ?_
  | refine g_is_dK_list (by k_memK) ?_
  | refine g_is_dK_tuple (by k_memK) ?_
  | refine g_is_dK_dict (by k_memK) ?_
  | refine g_is_dT_list (by k_memK) ?_
  | refine g_is_dT_tuple (by k_memK) ?_
  | refine g_is_dT_dict (by k_memK) ?_
  | refine g_isiC (by assumption) (by k_memK) ?_
  | refine g_forL ?_
  | refine g_forR1 ?_
  | refine g_forT ?_
  | refine g_lcL ?_
  | refine g_sFld ?_
  | refine g_ssFld ?_
  | refine g_dget ?_
  | refine g_sDput ?_
  | refine g_ssDput ?_
  | refine g_BM ?_
  | refine g_BM0 ?_
  | refine g_tyL (sqL (by k_memK)) ?_
  | refine g_tyS ?_
  | refine g_lenL (sqL (by k_memK)) ?_
  | refine g_lenT (sqT (by k_memK)) ?_
  | refine g_max ?_
  | refine g_min ?_
  | refine g_intI ?_
  | refine g_intB ?_
  | refine g_sl ?_
  | refine g_noPart ?_
  | refine g_part ?_
  | refine g_rI (by k_intsEnd) ?_
  | refine g_wipe (by k_ownIn) ?_
  | refine g_make ?_
  | refine g_seq ?_)
local macro_rules | `(tactic| k_subL) => `(tactic| repeat (k_places))

section
variable {P : Program} {w : World} {K : PySem.W.Frag} {mg : Str → Option Value} {base : Heap}
/-! ### the law's source of draws -/
def stK (l c : Addr) (r t : Int) : List (Key × V) := [(Sum.inr "large", .ref l), (Sum.inr "cells", .ref c), (Sum.inr "rest", .int r), (Sum.inr "turn", .int t)]
theorem keyne {a b : Str} (h : ¬ a = b) : ¬ ((Sum.inr a : Key) = Sum.inr b) := fun e => h (Sum.inr.inj e)
theorem sx_lc : ¬ (("large" : Str) = ("cells" : Str)) := by decide +kernel
theorem sx_lr : ¬ (("large" : Str) = ("rest" : Str)) := by decide +kernel
theorem sx_lt : ¬ (("large" : Str) = ("turn" : Str)) := by decide +kernel
theorem sx_cr : ¬ (("cells" : Str) = ("rest" : Str)) := by decide +kernel
theorem sx_ct : ¬ (("cells" : Str) = ("turn" : Str)) := by decide +kernel
theorem sx_rt : ¬ (("rest" : Str) = ("turn" : Str)) := by decide +kernel
theorem sx_tr : ¬ (("turn" : Str) = ("rest" : Str)) := by decide +kernel
theorem st_large {l c : Addr} {r t : Int} : valV (stK l c r t) (Sum.inr "large") = some (.ref l) := by
  unfold stK; rw [valV_pos rfl]
theorem st_cells {l c : Addr} {r t : Int} : valV (stK l c r t) (Sum.inr "cells") = some (.ref c) := by
  unfold stK; rw [valV_neg (keyne sx_lc), valV_pos rfl]
theorem st_rest {l c : Addr} {r t : Int} : valV (stK l c r t) (Sum.inr "rest") = some (.int r) := by
  unfold stK; rw [valV_neg (keyne sx_lr), valV_neg (keyne sx_cr), valV_pos rfl]
theorem st_turn {l c : Addr} {r t : Int} : valV (stK l c r t) (Sum.inr "turn") = some (.int t) := by
  unfold stK; rw [valV_neg (keyne sx_lt), valV_neg (keyne sx_ct), valV_neg (keyne sx_rt), valV_pos rfl]
theorem st_putTurn {l c : Addr} {r t u : Int} : putK (stK l c r t) (Sum.inr "turn") (.int u) = stK l c r u := by
  unfold stK putK
  simp [sx_lt, sx_ct, sx_rt]
theorem st_putRest {l c : Addr} {r t u : Int} : putK (stK l c r t) (Sum.inr "rest") (.int u) = stK l c u t := by
  unfold stK putK
  simp [sx_lr, sx_cr, sx_tr]
theorem st_small {l c : Addr} {r t : Int} : (stK l c r t).length < sizeLine := by show 4 < sizeLine; decide
/-- the source of draws at p, its list of large numbers at l; at most B turns were made -/
structure StAt (H : Hp) (p l : Addr) (B : Int) : Prop where
  ex : ∃ (c : Addr) (r t : Int) (ls cs : List Int), H p = some (.dK (stK l c r t)) ∧ H l = some (.lst (ls.map .int)) ∧ H c = some (.lst (cs.map .int)) ∧ l ≠ c ∧ 0 ≤ r ∧ 0 ≤ t ∧ t ≤ B ∧ (∀ x ∈ ls, 0 ≤ x) ∧ ls.length ≤ 63
/-- what a draw may change -/
abbrev Dr (p l : Addr) : Hp → Hp → Prop := Kp fun b => b = p ∨ b = l
theorem StAt.same {H H' : Hp} {p l : Addr} {B : Int} (s : Same H H') (h : StAt H p l B) : StAt H' p l B := by
  obtain ⟨c, r, t, ls, cs, h1, h2, h3, h4⟩ := h.ex
  exact ⟨c, r, t, ls, cs, s.get h1, s.get h2, s.get h3, h4⟩
theorem StAt.mono {H : Hp} {p l : Addr} {B C : Int} (h : StAt H p l B) (hb : B ≤ C) : StAt H p l C := by
  obtain ⟨c, r, t, ls, cs, h1, h2, h3, h4, h5, h6, h7, h8⟩ := h.ex
  exact ⟨c, r, t, ls, cs, h1, h2, h3, h4, h5, h6, by omega, h8⟩
theorem StAt.lst {H : Hp} {p l : Addr} {B : Int} (h : StAt H p l B) : ∃ xs, H l = some (.lst xs) := by
  obtain ⟨c, r, t, ls, cs, h1, h2, _⟩ := h.ex
  exact ⟨_, h2⟩
theorem StAt.dic {H : Hp} {p l : Addr} {B : Int} (h : StAt H p l B) : ∃ kvs, H p = some (.dK kvs) := by
  obtain ⟨c, r, t, ls, cs, h1, _⟩ := h.ex
  exact ⟨_, h1⟩
/-- a tuple, an instance, what was not there: none of the source's -/
theorem StAt.tup {H : Hp} {p l a : Addr} {B : Int} {xs : List V} (h : StAt H p l B) (ha : H a = some (.tup xs)) : ¬ (a = p ∨ a = l) := by
  obtain ⟨_, h1⟩ := h.dic
  obtain ⟨_, h2⟩ := h.lst
  exact fun z => z.elim (ne_of ha h1 (fun z => nomatch z)) (ne_of ha h2 (fun z => nomatch z))
theorem StAt.ins {H : Hp} {p l a C dx : Addr} {B : Int} {fs : List (Str × V)} (h : StAt H p l B) (ha : H a = some (.ins C dx fs)) : ¬ (a = p ∨ a = l) := by
  obtain ⟨_, h1⟩ := h.dic
  obtain ⟨_, h2⟩ := h.lst
  exact fun z => z.elim (ne_of ha h1 (fun z => nomatch z)) (ne_of ha h2 (fun z => nomatch z))
theorem StAt.new {H : Hp} {p l a : Addr} {B : Int} (h : StAt H p l B) (ha : H a = none) : ¬ (a = p ∨ a = l) := by
  obtain ⟨_, h1⟩ := h.dic
  obtain ⟨_, h2⟩ := h.lst
  exact fun z => z.elim (ne_of_none h1 ha).symm (ne_of_none h2 ha).symm
def spBegun (K : PySem.W.Frag) : Sp := fun vs H Q _ => ∃ (a : Addr) (ns : List Int), vs = [.ref a] ∧ SqL K H a (ns.map V.int) ∧ ns.length ≤ 63 ∧ ∀ p l H', Same H H' → H p = none → H l = none → StAt H' p l 0 → Q (.ref p) H'
theorem cal0__law_begun (T : TX K mg base) : CalA P w K mg base 1 (He.ga K "_law_begun") ["_law_script"] [] (spBegun K) := by
  refine cal_mk (k := 0) (T.d__law_begun) rfl sc__law_begun (fun _ _ _ _ _ _ us hl => match us, hl with | [_], _ => rfl) (fun vs H Q E h => ?_) (fun cdv A outer s H vs Q E hr h => ?_)
  · obtain ⟨_, _, rfl, _⟩ := h; rfl
  · have hu := hu_of hr
    clear hu
    obtain ⟨a, ns, rfl, ha, hlen, k⟩ := h
    refine ⟨_, (pss_cons (ps_setLc (i := 1) (own := [("_law_cell", 2)]) (g := gName 2) rfl sc__law_begun.nd rfl rfl (sw_true rfl rfl rfl (by decide +kernel)) (pi_listK (K := K) rfl (pv 0)) (blkOk_by (own := [("_law_cell", 2)]) (N := ["_law_script", "_law_large", "_law_cell"]) (sc := defScope sd__law_begun) (by decide +kernel)) (fun _ _ _ _ _ => (pg_name (i := 2) sc__law_begun.nd rfl (Or.inl rfl))) (fun _ _ _ _ _ => (pts_one (pt_cmpR op_ge (pv 2) (pe_op op_pow pe_int pe_int) (nomark _)))) (fun _ _ _ _ _ => (pe_op op_sub (pv 2) (pe_op op_pow pe_int pe_int))))
      (pss_one (ps_ret (pe_disp (pps_cons pe_str (pv 1) (pps_cons pe_str (pe_callTy (call_listK (K := K) rfl) (by rfl) T.b_list (by decide +kernel) (pa_cons (pv 0) pa_nil)) (pps_cons pe_str pe_int (pps_cons pe_str pe_int pps_nil)))) (by rfl) (by rfl) (fun z => by cases z) (by decide))))), ?_⟩
    try dsimp only [cxOf, Cx.nox]
    refine g_start (σ' := [some _, none, none]) rfl ?_
    k_subL
    refine lcL_by ha (fun D i H' => Same H H' ∧ ∃ ls : List Int, H' D = some (.lst (ls.map .int)) ∧ ls.length ≤ i ∧ ∀ x ∈ ls, 0 ≤ x) ?_ ?_ ?_ ?_
    · intro D hD
      exact ⟨Same.new hD, [], upd_same, Nat.le_refl _, fun x hx => absurd hx List.not_mem_nil⟩
    · rintro D i H' hD hi ⟨s, _⟩
      exact s.seq ha
    · rintro D i x H' hD hx ⟨s, ls, h1, h2, h3⟩
      rw [List.getElem?_map] at hx
      have hil : i < ns.length := by
        cases e : ns[i]? with
        | none => rw [e] at hx; cases hx
        | some z => exact (List.getElem?_eq_some_iff.mp e).1
      obtain ⟨z, rfl⟩ : ∃ z, x = V.int z := by
        cases e : ns[i]? with
        | none => rw [e] at hx; cases hx
        | some z => rw [e] at hx; exact ⟨z, (Option.some.inj hx).symm⟩
      k_subL
      refine g_itD (fun hz => ?_) (fun hz => ?_)
      · k_subL
        refine ⟨_, h1, by rw [List.length_map]; exact Nat.lt_of_le_of_lt (by omega : ls.length ≤ 63) (by decide), s.mut hD, ls ++ [z - 10 ^ 18], by rw [upd_same, List.map_append]; rfl, by simp; omega, fun x hx => ?_⟩
        rcases List.mem_append.mp hx with q | q
        · exact h3 x q
        · obtain rfl := List.mem_singleton.mp q
          have hz : (10 : Int) ^ 18 ≤ z := hz
          omega
      · exact ⟨s, ls, h1, by omega, h3⟩
    · rintro D H1 hD ⟨s, ls, h1, h2, h3⟩
      k_subL
      refine g_disp fun p H2 hn s2 hp => ?_
      refine g_pairs ?_
      k_subL
      refine g_pairs ?_
      k_subL
      refine g_listL (s2.seq (s.seq ha)) fun c H3 hn3 s3 hc => ?_
      refine g_pairs ?_
      k_subL
      refine g_pairs ?_
      k_subL
      refine g_pairs0 ?_
      refine ⟨s3.get hp, stK D c 0 0, rfl, by show 4 ≤ 15; decide, ?_⟩
      have e : mergeK [] (stK D c 0 0) = stK D c 0 0 := by
        simp only [mergeK, stK, List.foldl]
        simp [putK, sx_lc, sx_lr, sx_lt, sx_cr, sx_ct, sx_rt]
      rw [e]
      have hHp := hn
      have hHc := hn3
      have npD : D ≠ p := ne_of_none h1 hn
      have ncp : c ≠ p := (ne_of_none hp hn3).symm
      have ncD : D ≠ c := ne_of_none (s2.get h1) hn3
      refine k p D _ (((s.trans s2).trans s3).mut (s.free hn)) (s.free hn) hD ⟨c, 0, 0, ls, ns, upd_same, ?_, ?_, ncD, Int.le_refl _, Int.le_refl _, Int.le_refl _, h3, ?_⟩
      · rw [upd_ne npD]; exact s3.get (s2.get h1)
      · rw [upd_ne ncp]; exact hc
      · rw [List.length_map] at h2; omega
theorem cal__law_begun (T : TX K mg base) : Cal P w K mg base 1 "_law_begun" ["_law_script"] [] (spBegun K) := (cal0__law_begun T).cal (T.d__law_begun) T.g__law_begun
def spMixed : Sp := fun vs H Q _ => ∃ p l B, vs = [.ref p] ∧ StAt H p l B ∧ B ≤ 10000000000 ∧ ∀ n H', 0 ≤ n → StAt H' p l (B + 1) → Dr p l H H' → Q (.int n) H'
theorem cal0__law_mixed (T : TX K mg base) : CalA P w K mg base 1 (He.ga K "_law_mixed") ["_law_state"] [] spMixed := by
  refine cal_mk (k := 0) (T.d__law_mixed) rfl sc__law_mixed (fun _ _ _ _ _ _ us hl => match us, hl with | [_], _ => rfl) (fun vs H Q E h => ?_) (fun cdv A outer s H vs Q E hr h => ?_)
  · obtain ⟨_, _, _, rfl, _⟩ := h; rfl
  · have hu := hu_of hr
    skip
    obtain ⟨p, l, B, rfl, hst, hB, k⟩ := h
    refine ⟨_, (pss_cons (ps_dput hu (pv 0) pe_str (pe_op op_add (pe_dget hu (pv 0) pe_str (fun _ _ => rfl)) pe_int) rfl)
      (pss_cons (ps_set (i := 1) sc__law_mixed.nd rfl (Or.inl rfl) pe_int)
      (pss_cons (ps_for PassesOwn.never rfl (pi_listK (K := K) rfl (pe_lst (pa_cons pe_int (pa_cons pe_int (pa_cons pe_int (pa_cons pe_int (pa_cons pe_int (pa_cons pe_int pa_nil)))))))) (pg_name (i := 2) sc__law_mixed.nd rfl (Or.inl rfl))
      (pss_cons (ps_set (i := 3) sc__law_mixed.nd rfl (Or.inl rfl) (pe_op op_add (pe_op op_mul pe_int (pe_dget hu (pv 0) pe_str (fun _ _ => rfl))) (pe_op op_fdiv (pv 2) pe_int)))
      (pss_cons (ps_for PassesOwn.never rfl (pi_listK (K := K) rfl (pe_dget hu (pv 0) pe_str (fun _ _ => rfl))) (pg_name (i := 4) sc__law_mixed.nd rfl (Or.inl rfl))
      (pss_one (ps_set (i := 3) sc__law_mixed.nd rfl (Or.inl rfl) (pe_op op_mod (pe_callTy call_intI (by rfl) T.b_int (by decide +kernel) (pa_cons (pe_op op_add (pe_op op_mul (pv 3) pe_int) (pv 4)) pa_nil)) (pv 2)))))
      (pss_one (ps_set (i := 1) sc__law_mixed.nd rfl (Or.inl rfl) (pe_op op_add (pe_op op_mul (pv 1) pe_int) (pe_op op_mod (pe_callTy call_intI (by rfl) T.b_int (by decide +kernel) (pa_cons (pe_op op_pow (pv 3) pe_int) pa_nil)) (pv 2))))))))
      (pss_one (ps_ret (pv 1)))))), ?_⟩
    try dsimp only [cxOf, Cx.nox]
    refine g_start (σ' := [some _, none, none, none, none]) rfl ?_
    obtain ⟨c, r, t, ls, cs, h1, h2, h3, h4, h5, h6, h7, h8, h9⟩ := hst.ex
    k_subL
    refine g_exDGs h1 st_turn ?_
    k_subL
    refine g_exDPs h1 st_small st_putTurn fun H1 k1 g1 => ?_
    have g2 := k1 _ _ h2 (ne_of h2 h1 fun z => nomatch z)
    have g3 := k1 _ _ h3 (ne_of h3 h1 fun z => nomatch z)
    have S1 : StAt H1 p l (B + 1) := ⟨c, r, t + 1, ls, cs, g1, g2, g3, h4, h5, by omega, by omega, h8, h9⟩
    have D1 : Dr p l H H1 := fun b o e n => k1 b o e fun z => n (.inl z)
    k_subL
    refine newL (by k_offL) fun ps H2 hn s2 hps => ?_
    refine forL_by (xs := [2147483629, 2147483587, 2147483579, 2147483563, 2147483549, 2147483543].map V.int) (sqL hps) (fun i σ H' => ∃ n v1 v2 v3, σ = [some (.ref p), some (.int n), v1, v2, v3] ∧ 0 ≤ n ∧ Same H1 H' ∧ H' ps = some (.lst ([2147483629, 2147483587, 2147483579, 2147483563, 2147483549, 2147483543].map V.int))) ?_ ?_ ?_ ?_
    · exact ⟨0, none, none, none, rfl, Int.le_refl _, s2, hps⟩
    · rintro i σ H' hi ⟨n, v1, v2, v3, rfl, hn, s, hq⟩
      exact sqL hq
    · rintro i x σ H3 hx ⟨n, v1, v2, v3, rfl, hn0, s3, hq⟩
      obtain ⟨pr, rfl, hp1, hp2⟩ : ∃ pr : Int, x = .int pr ∧ 2147483543 ≤ pr ∧ pr ≤ 2147483629 := by
        have hm : x ∈ [2147483629, 2147483587, 2147483579, 2147483563, 2147483549, 2147483543].map V.int := List.mem_of_getElem? hx
        simp only [List.map_cons, List.map_nil, List.mem_cons, List.not_mem_nil, or_false] at hm
        rcases hm with rfl | rfl | rfl | rfl | rfl | rfl <;> exact ⟨_, rfl, by decide, by decide⟩
      k_subL
      refine g_exDGs (s3.get g1) st_turn ?_
      k_subL
      refine g_exDGs (s3.get g1) st_cells ?_
      refine forL_by (xs := cs.map V.int) (sqL (s3.get g3)) (fun i σ H' => ∃ b v3, σ = [some (.ref p), some (.int n), some (.int pr), some (.int b), v3] ∧ 0 ≤ b ∧ b ≤ 10000000000000000 ∧ H' = H3) ?_ ?_ ?_ ?_
      · exact ⟨_, _, rfl, by omega, by omega, rfl⟩
      · rintro i σ H' hi ⟨b, v3, rfl, hb, hb2, rfl⟩
        exact sqL (s3.get g3)
      · rintro i x σ H' hx ⟨b, v3, rfl, hb, hb2, rfl⟩
        obtain ⟨z, rfl⟩ : ∃ z, x = V.int z := by
          rw [List.getElem?_map] at hx
          cases e : cs[i]? with
          | none => rw [e] at hx; cases hx
          | some z => rw [e] at hx; exact ⟨z, (Option.some.inj hx).symm⟩
        k_subL
        have e1 := Int.emod_nonneg (b * 48271 + z) (b := pr) (by omega)
        have e2 := Int.emod_lt_of_pos (b * 48271 + z) (b := pr) (by omega)
        exact ⟨_, _, rfl, e1, by omega, rfl⟩
      · rintro σ H' ⟨b, v3, rfl, hb, hb2, rfl⟩
        k_subL
        have e1 := Int.emod_nonneg (b ^ (5 : Int).toNat) (b := pr) (by omega)
        exact ⟨_, _, _, _, rfl, by omega, s3, hq⟩
    · rintro σ H3 ⟨n, v1, v2, v3, rfl, hn0, s3, hq⟩
      k_subL
      exact k n H3 hn0 (S1.same s3) (D1.trans s3.kp)
theorem cal__law_mixed (T : TX K mg base) : Cal P w K mg base 1 "_law_mixed" ["_law_state"] [] spMixed := (cal0__law_mixed T).cal (T.d__law_mixed) T.g__law_mixed
def spTake : Sp := fun vs H Q _ => ∃ p l B s, vs = [.ref p, .int s] ∧ StAt H p l B ∧ B ≤ 10000000000 ∧ 0 < s ∧ s < 1073741824 ∧ ∀ n H', 0 ≤ n → n < s → StAt H' p l (B + 1) → Dr p l H H' → Q (.int n) H'
theorem cal0__law_take (T : TX K mg base) : CalA P w K mg base 2 (He.ga K "_law_take") ["_law_state", "_law_size"] [] spTake := by
  refine cal_mk (k := 1) (T.d__law_take) rfl sc__law_take (fun _ _ _ _ _ _ us hl => match us, hl with | [_, _], _ => rfl) (fun vs H Q E h => ?_) (fun cdv A outer s H vs Q E hr h => ?_)
  · obtain ⟨_, _, _, _, rfl, _⟩ := h; rfl
  · have hu := hu_of hr
    skip
    obtain ⟨p, l, B, s, rfl, hst, hB, hs0, hs1, k⟩ := h
    refine ⟨_, (pss_cons (ps_if (pt_cmpR op_eq (pe_dget hu (pv 0) pe_str (fun _ _ => rfl)) pe_int (nomark _))
      (pss_one (ps_dput hu (pv 0) pe_str (pe_ifExp (pt_cmpR (op_neDK (K := K) rfl hr.units) (pe_dget hu (pv 0) pe_str (fun _ _ => rfl)) (pe_lst pa_nil) (nomark _)) (pe_bmK (K := K) rfl PySem.F.plainAttrs_list PySem.F.slot_list_pop PySem.F.type_list_pop mt_popAt (pe_dget hu (pv 0) pe_str (fun _ _ => rfl)) (pa_cons pe_int pa_nil)) (pe_cal (cal__law_mixed T) (hr.mono (by decide)) (pa_cons (pv 0) pa_nil))) rfl))
      pss_nil)
      (pss_cons (ps_set (i := 2) sc__law_take.nd rfl (Or.inl rfl) (pe_op op_mod (pe_callTy call_intI (by rfl) T.b_int (by decide +kernel) (pa_cons (pe_dget hu (pv 0) pe_str (fun _ _ => rfl)) pa_nil)) (pv 1)))
      (pss_cons (ps_dput hu (pv 0) pe_str (pe_op op_fdiv (pe_dget hu (pv 0) pe_str (fun _ _ => rfl)) (pv 1)) rfl)
      (pss_one (ps_ret (pv 2)))))), ?_⟩
    try dsimp only [cxOf, Cx.nox]
    refine g_start (σ' := [some _, some _, none]) rfl ?_
    -- the end, from any state
    have fin : ∀ H1, StAt H1 p l (B + 1) → Dr p l H H1 → tSeq (tAsg (tOp (rI (fun _ j => 0 < j) fun i j => V.int (i % j)) (tCB rIntI (tCons (tDGet (tVar 0) (tC (V.str "rest"))) tNil)) (tVar 1)) (gName 2))
        (tSeq (sDPut (tVar 0) (tC (V.str "rest")) (tOp (rI CDiv fun i j => V.int (i / j)) (tDGet (tVar 0) (tC (V.str "rest"))) (tVar 1))) (tRet (tVar 2))) { nx := fun x H' => Q V.non H', rt := Q } [some (.ref p), some (.int s), none] H1 := by
      intro H1 S1 D1
      obtain ⟨c, r, t, ls, cs, h1, h2, h3, h4, h5, h6, h7, h8, h9⟩ := S1.ex
      k_subL
      refine g_exDGs h1 st_rest ?_
      k_subL
      refine g_exDGs h1 st_rest ?_
      k_subL
      refine g_exDPs h1 st_small st_putRest fun H2 k2 g1 => ?_
      have g2 := k2 _ _ h2 (ne_of h2 h1 fun z => nomatch z)
      have g3 := k2 _ _ h3 (ne_of h3 h1 fun z => nomatch z)
      k_subL
      exact k _ H2 (Int.emod_nonneg _ (by omega)) (Int.emod_lt_of_pos _ hs0) ⟨c, _, t, ls, cs, g1, g2, g3, h4, Int.ediv_nonneg h5 (by omega), h6, h7, h8, h9⟩ (D1.trans fun b o e n => k2 b o e fun z => n (.inl z))
    obtain ⟨c, r, t, ls, cs, h1, h2, h3, h4, h5, h6, h7, h8, h9⟩ := hst.ex
    k_subL
    refine g_exDGs h1 st_rest ?_
    k_subL
    refine g_itD (fun hr0 => ?_) (fun hr0 => ?_)
    · k_subL
      refine g_exDGs h1 st_large ?_
      k_subL
      refine newL (by k_offL) fun e H1 hn s1 he => ?_
      cases ls with
      | nil =>
        refine g_neD (Dp.ints (ns := []) (sqL (s1.get h2))) (Dp.ints (ns := []) (sqL he)) rfl rfl rfl ?_
        k_subL
        refine ⟨p, l, B, rfl, hst.same s1, hB, fun n H2 hn0 S2 D2 => ?_⟩
        obtain ⟨c2, r2, t2, ls2, cs2, i1, i2, i3, i4, i5, i6, i7, i8, i9⟩ := S2.ex
        k_subL
        refine g_exDPs i1 st_small st_putRest fun H3 k3 j1 => ?_
        have j2 := k3 _ _ i2 (ne_of i2 i1 fun z => nomatch z)
        have j3 := k3 _ _ i3 (ne_of i3 i1 fun z => nomatch z)
        exact fin H3 ⟨c2, n, t2, ls2, cs2, j1, j2, j3, i4, hn0, i6, i7, i8, i9⟩ ((s1.kp.trans D2).trans fun b o e n => k3 b o e fun z => n (.inl z))
      | cons y ls =>
        refine g_neD (Dp.ints (ns := y :: ls) (sqL (s1.get h2))) (Dp.ints (ns := []) (sqL he)) (shaped_ints _) rfl rfl ?_
        k_subL
        refine g_exDGs (s1.get h1) st_large ?_
        k_subL
        refine g_pop0 (s1.get h2) (by rw [List.length_map]; simp at h9; omega) fun H2 k2 g2 => ?_
        have g1 := k2 _ _ (s1.get h1) (ne_of (s1.get h1) (s1.get h2) fun z => nomatch z)
        have g3 := k2 _ _ (s1.get h3) h4.symm
        k_subL
        refine g_exDPs g1 st_small st_putRest fun H3 k3 j1 => ?_
        have j2 := k3 _ _ g2 (ne_of g2 g1 fun z => nomatch z)
        have j3 := k3 _ _ g3 (ne_of g3 g1 fun z => nomatch z)
        exact fin H3 ⟨c, y, t, ls, cs, j1, j2, j3, h4, h8 y List.mem_cons_self, h6, by omega, fun x hx => h8 x (List.mem_cons_of_mem _ hx), by simp at h9; omega⟩
          ((s1.kp.trans fun b o e n => k2 b o e fun z => n (.inr z)).trans fun b o e n => k3 b o e fun z => n (.inl z))
    · exact fin H (hst.mono (by omega)) (Kp.refl _)
theorem cal__law_take (T : TX K mg base) : Cal P w K mg base 2 "_law_take" ["_law_state", "_law_size"] [] spTake := (cal0__law_take T).cal (T.d__law_take) T.g__law_take
theorem c_take {p l : Addr} {B s : Int} {H : Hp} {Q : VK} {E : XK} (h : StAt H p l B) (hB : B ≤ 10000000000) (h1 : 0 < s) (h2 : s < 1073741824) (k : ∀ n H', 0 ≤ n → n < s → StAt H' p l (B + 1) → Dr p l H H' → Q (.int n) H') : spTake ([.ref p, .int s] ++ []) H Q E := ⟨p, l, B, s, rfl, h, hB, h1, h2, k⟩
/-- some item of a list that is none of the source's -/
def spPick (K : PySem.W.Frag) : Sp := fun vs H Q _ => ∃ p l B a xs, vs = [.ref p, .ref a] ∧ StAt H p l B ∧ B ≤ 10000000000 ∧ H a = some (.lst xs) ∧ a ≠ l ∧ 0 < xs.length ∧ xs.length < 1000000 ∧ ∀ (j : Nat) v H', xs[j]? = some v → StAt H' p l (B + 1) → Dr p l H H' → Q v H'
theorem cal0__law_pick (T : TX K mg base) : CalA P w K mg base 3 (He.ga K "_law_pick") ["_law_state", "_law_some"] [] (spPick K) := by
  refine cal_mk (k := 2) (T.d__law_pick) rfl sc__law_pick (fun _ _ _ _ _ _ us hl => match us, hl with | [_, _], _ => rfl) (fun vs H Q E h => ?_) (fun cdv A outer s H vs Q E hr h => ?_)
  · obtain ⟨_, _, _, _, _, rfl, _⟩ := h; rfl
  · have hu := hu_of hr
    clear hu
    obtain ⟨p, l, B, a, xs, rfl, hst, hB, ha, hal, hx0, hx1, k⟩ := h
    refine ⟨_, (pss_one (ps_ret (pe_ix (ix_listK (K := K) rfl) (pv 1) (pe_cal (cal__law_take T) (hr.mono (by decide)) (pa_cons (pv 0) (pa_cons (pe_callB (call_lenK (K := K) rfl) (by rfl) T.b_len (by decide +kernel) (pa_cons (pv 1) pa_nil)) pa_nil))) (fun _ _ => rfl)))), ?_⟩
    try dsimp only [cxOf, Cx.nox]
    refine g_start (σ' := [some _, some _]) rfl ?_
    k_subL
    refine c_take hst hB (by omega) (by omega) fun n H1 hn0 hn1 S1 D1 => ?_
    obtain ⟨j, rfl⟩ : ∃ j : Nat, n = (j : Int) := ⟨n.toNat, by omega⟩
    obtain ⟨v, hv⟩ : ∃ v, xs[j]? = some v := ⟨xs[j]'(by omega), List.getElem?_eq_getElem (by omega)⟩
    obtain ⟨_, hd⟩ := hst.dic
    have ha1 := D1 _ _ ha fun z => z.elim (ne_of ha hd fun z => nomatch z) hal
    refine g_ixL (sqL ha1) (atI_nat hv) ?_
    exact k j v H1 hv S1 D1
theorem cal__law_pick (T : TX K mg base) : Cal P w K mg base 3 "_law_pick" ["_law_state", "_law_some"] [] (spPick K) := (cal0__law_pick T).cal (T.d__law_pick) T.g__law_pick
theorem c_pick {p l a : Addr} {B : Int} {xs : List V} {H : Hp} {Q : VK} {E : XK} (h : StAt H p l B) (hB : B ≤ 10000000000) (ha : H a = some (.lst xs)) (hal : a ≠ l) (h1 : 0 < xs.length) (h2 : xs.length < 1000000) (k : ∀ (j : Nat) v H', xs[j]? = some v → StAt H' p l (B + 1) → Dr p l H H' → Q v H') : spPick K ([.ref p, .ref a] ++ []) H Q E := ⟨p, l, B, a, xs, rfl, h, hB, ha, hal, h1, h2, k⟩

end
end Pr
namespace Pr
open PySem PySem.Spec PyProof.Rows L2 Wb M78
local macro_rules | `(tactic| k_ownIn) => `(tactic| k_dflt rfl)
local macro_rules | `(tactic| k_clsL) => `(tactic| (dsimp only [wipe, List.map_cons, List.map_nil, List.set_cons_zero, List.set_cons_succ] <;> exact rfl))
local macro_rules | `(tactic| k_memK) => `(tactic| with_reducible first
  | assumption
  | (refine Same.get (by assumption) ?_; k_memK))
local macro_rules | `(tactic| k_updF) => `(tactic| with_reducible first | exact sqT (by k_memK) | assumption | (refine Same.tup (by assumption) ?_; k_updF))
local macro_rules | `(tactic| k_offL) => `(tactic| first | exact Nat.le_of_ble_eq_true rfl | (simp only [List.length_append, List.length_cons, List.length_nil, List.length_map]; exact Nat.le_trans (by omega) (by decide : 1000000 ≤ sizeLine)))
local macro_rules | `(tactic| k_intsEnd) => `(tactic| k_dflt first | exact Or.inl ⟨by omega, by omega⟩ | exact Or.inr ⟨by omega, by omega⟩ | exact ⟨by omega, by omega⟩ | (show (0 : Int) < _; omega) | exact ⟨by decide, by decide, by decide⟩)
local macro_rules | `(tactic| k_upd) => `(tactic| first | with_reducible rfl | with_reducible exact Bool.not_true | with_reducible exact Bool.not_false | (with_reducible refine decide_eq_true ?_; (k_dflt first | assumption | omega)) | (with_reducible refine decide_eq_false ?_; (k_dflt first | assumption | omega)) | with_reducible assumption | (law_purse 300 => k_dflt rfl) | (law_purse 20000 => (simp only [Bool.not_eq_eq_eq_not, Bool.not_true, Bool.not_false, beq_eq_false_iff_ne, bne_iff_ne, ne_eq, beq_iff_eq, decide_eq_true_eq, decide_eq_false_iff_not, beq_true, beq_false, Bool.false_beq, Bool.true_beq, Bool.not_not]; omega)))
local macro_rules | `(tactic| k_places) => `(tactic| with_reducible first
  | refine g_var (by k_ownIn) ?_
  | refine g_c ?_
  | refine g_op ?_
  | refine g_cons ?_
  | refine g_nil ?_
  | refine g_call ?_
  | refine g_CB ?_
  | refine g_rI0 ?_
  | refine g_sAsg ?_
  | refine g_nameN (by k_clsL) ?_
  | refine g_sIf ?_
  | refine g_ret ?_
  | refine g_asg ?_
  | refine g_ifS ?_
  | refine g_nx ?_
  | refine g_rt ?_
  | refine g_test ?_
  | refine g_tB ?_
  | refine g_exB ?_
  | refine g_exI ?_
  | refine g_eqI ?_
  | refine g_neI ?_
  | refine g_eqS ?_
  | refine g_neS ?_
  | refine g_eqB ?_
  | refine g_neB ?_
  | refine g_isNr ?_
  | refine g_notNr ?_
  | refine g_isNi ?_
  | refine g_notNi ?_
  | refine g_isNb ?_
  | refine g_notNb ?_
  | refine g_isNs ?_
  | refine g_notNs ?_
  | refine g_isNn ?_
  | refine g_notNn ?_
  | refine g_and ?_
  | refine g_or ?_
  | refine g_not ?_
  | refine g_andV ?_
  | refine g_orV ?_
  | refine g_notV ?_
  | refine g_if ?_
  | refine g_itT (by k_upd) ?_
  | refine g_itF (by k_upd) ?_
  | refine g_chain ?_
  | refine g_un ?_
  | refine g_rU ?_
  | refine g_fld ?_
  | refine g_exF (by k_memK) (by assumption) (by assumption) (by k_ownIn) ?_
  | refine g_meth ?_
  | refine g_prop ?_
  | refine g_exP (by k_memK) ?_
  | refine g_exM (by k_memK) (by k_ownIn) ?_
  | refine g_tup ?_
  | refine g_lst ?_
  | refine g_ixT (by k_updF) (by k_ownIn) ?_
  | refine g_gTup (by k_updF) (by k_ownIn) ?_
  | refine g_gCons ?_
  | refine g_gNil ?_
  | refine g_sDrop ?_
  | refine g_drop ?_
  | refine g_sAug (by k_ownIn) ?_
  | refine g_aug (by k_ownIn) ?_
  | refine g_sPar ?_
  | refine g_par ?_
  | refine g_ex2 ?_
  | refine g_next ?_
  | refine g_retS ?_
  | refine g_is_int_int ?_
  | refine g_is_int_bool ?_
  | refine g_is_bl_bool ?_
  | refine g_is_bl_int ?_
  | refine g_is_str_str ?_
  | refine g_is_int_str ?_
  | refine g_is_str_int ?_
  | refine g_is_str_bool ?_
  | refine g_is_bl_str ?_
  | refine g_is_lst_list (by k_memK) ?_
  | refine g_is_lst_tuple (by k_memK) ?_
  | refine g_is_lst_dict (by k_memK) ?_
  | refine g_is_tup_list (by k_memK) ?_
  | refine g_is_tup_tuple (by k_memK) ?_
  | refine g_is_tup_dict (by k_memK) ?_
  | refine g_is_dK_list (by k_memK) ?_
  | refine g_is_dK_tuple (by k_memK) ?_
  | refine g_is_dK_dict (by k_memK) ?_
  | refine g_is_dT_list (by k_memK) ?_
  | refine g_is_dT_tuple (by k_memK) ?_
  | refine g_is_dT_dict (by k_memK) ?_
  | refine g_isiC (by assumption) (by k_memK) ?_
  | refine g_forL ?_
  | refine g_forR1 ?_
  | refine g_forT ?_
  | refine g_lcL ?_
  | refine g_sFld ?_
  | refine g_ssFld ?_
  | refine g_dget ?_
  | refine g_sDput ?_
  | refine g_ssDput ?_
  | refine g_BM ?_
  | refine g_BM0 ?_
  | refine g_tyL (sqL (by k_memK)) ?_
  | refine g_tyS ?_
  | refine g_lenL (sqL (by k_memK)) ?_
  | refine g_lenT (sqT (by k_memK)) ?_
  | refine g_max ?_
  | refine g_min ?_
  | refine g_intI ?_
  | refine g_intB ?_
  | refine g_sl ?_
  | refine g_noPart ?_
  | refine g_part ?_
  | refine g_rI (by k_intsEnd) ?_
  | refine g_wipe (by k_ownIn) ?_
  | refine g_make ?_
  | refine g_seq ?_)
local macro_rules | `(tactic| k_subL) => `(tactic| repeat (k_places))

local macro_rules | `(tactic| k_places) => `(tactic| with_reducible refine c_isNumberIn (by k_dflt omega) (by k_dflt omega) ?_)
local macro_rules | `(tactic| k_allIn) => `(tactic| with_reducible first
  | assumption
  | (refine PlanAt.same (by assumption) ?_; k_allIn))
local macro_rules | `(tactic| k_places) => `(tactic| with_reducible refine c_needPlan (by k_allIn) ?_)
local macro_rules | `(tactic| k_places) => `(tactic| with_reducible refine c_needBalance (by k_allIn) (by k_dflt omega) (by k_dflt omega) ?_)

section
variable {P : Program} {w : World} {K : PySem.W.Frag} {mg : Str → Option Value} {base : Heap}
/-- the parts of a plan as a tuple -/
def PartsAt (H : Hp) (q : Addr) (p : Pl) : Prop := p.Ok ∧ p.least ≤ 3000 ∧ H q = some (.tup [.int p.rate, .int p.share, .int p.least, .bl p.plus])
def spParts : Sp := fun vs H Q _ => ∃ p l B, vs = [.ref p] ∧ StAt H p l B ∧ B ≤ 9000000000 ∧ ∀ q pl H', StAt H' p l (B + 20) → Dr p l H H' → PartsAt H' q pl → Q (.ref q) H'
theorem cal0__law_parts (T : TX K mg base) : CalA P w K mg base 4 (He.ga K "_law_parts") ["_law_state"] [] spParts := by
  refine cal_mk (k := 3) (T.d__law_parts) rfl sc__law_parts (fun _ _ _ _ _ _ us hl => match us, hl with | [_], _ => rfl) (fun vs H Q E h => ?_) (fun cdv A outer s H vs Q E hr h => ?_)
  · obtain ⟨_, _, _, rfl, _⟩ := h; rfl
  · have hu := hu_of hr
    clear hu
    obtain ⟨p, l, B, rfl, hst, hB, k⟩ := h
    refine ⟨_, (pss_cons (ps_set (i := 1) sc__law_parts.nd rfl (Or.inl rfl) (pe_cal (cal__law_pick T) (hr.mono (by decide)) (pa_cons (pv 0) (pa_cons (pe_lst (pa_cons pe_int (pa_cons pe_int (pa_cons pe_int (pa_cons pe_int (pa_cons pe_int (pa_cons pe_int (pa_cons pe_int (pa_cons pe_int (pa_cons (pe_cal (cal__law_take T) (hr.mono (by decide)) (pa_cons (pv 0) (pa_cons pe_int pa_nil))) (pa_cons (pe_cal (cal__law_take T) (hr.mono (by decide)) (pa_cons (pv 0) (pa_cons pe_int pa_nil))) pa_nil))))))))))) pa_nil))))
      (pss_cons (ps_set (i := 2) sc__law_parts.nd rfl (Or.inl rfl) (pe_cal (cal__law_pick T) (hr.mono (by decide)) (pa_cons (pv 0) (pa_cons (pe_lst (pa_cons pe_int (pa_cons pe_int (pa_cons pe_int (pa_cons pe_int (pa_cons pe_int (pa_cons pe_int (pa_cons pe_int (pa_cons pe_int (pa_cons (pe_cal (cal__law_take T) (hr.mono (by decide)) (pa_cons (pv 0) (pa_cons pe_int pa_nil))) (pa_cons (pe_cal (cal__law_take T) (hr.mono (by decide)) (pa_cons (pv 0) (pa_cons pe_int pa_nil))) pa_nil))))))))))) pa_nil))))
      (pss_cons (ps_set (i := 3) sc__law_parts.nd rfl (Or.inl rfl) (pe_cal (cal__law_pick T) (hr.mono (by decide)) (pa_cons (pv 0) (pa_cons (pe_lst (pa_cons pe_int (pa_cons pe_int (pa_cons pe_int (pa_cons pe_int (pa_cons pe_int (pa_cons pe_int (pa_cons (pe_op op_add pe_int (pe_cal (cal__law_take T) (hr.mono (by decide)) (pa_cons (pv 0) (pa_cons pe_int pa_nil)))) (pa_cons (pe_op op_add pe_int (pe_cal (cal__law_take T) (hr.mono (by decide)) (pa_cons (pv 0) (pa_cons pe_int pa_nil)))) pa_nil))))))))) pa_nil))))
      (pss_one (ps_ret (pe_tup (pa_cons (pv 1) (pa_cons (pv 2) (pa_cons (pv 3) (pa_cons (pe_cmpR op_eq (pe_cal (cal__law_take T) (hr.mono (by decide)) (pa_cons (pv 0) (pa_cons pe_int pa_nil))) pe_int (nomark _)) pa_nil)))))))))), ?_⟩
    try dsimp only [cxOf, Cx.nox]
    refine g_start (σ' := [some _, none, none, none]) rfl ?_
    k_subL
    refine c_take hst (by omega) (by decide) (by decide) fun n1 H1 a1 b1 S1 D1 => ?_
    k_subL
    refine c_take S1 (by omega) (by decide) (by decide) fun n2 H2 a2 b2 S2 D2 => ?_
    k_subL
    refine newL (by k_offL) fun q1 H3 hn3 s3 hq1 => ?_
    k_subL
    refine c_pick (S2.same s3) (by omega) hq1 (fun z => (S2.new hn3) (.inr z)) (Nat.le_of_ble_eq_true rfl) (Nat.le_of_ble_eq_true rfl) fun j1 v1 H4 hv1 S4 D4 => ?_
    obtain ⟨r, rfl, hr1⟩ := pick_int (zs := [0, 1, 5, 15, 20, 100, 999, 1000, n1, n2]) hv1
    simp only [List.mem_cons, List.not_mem_nil, or_false] at hr1
    k_subL
    refine c_take S4 (by omega) (by decide) (by decide) fun n3 H5 a3 b3 S5 D5 => ?_
    k_subL
    refine c_take S5 (by omega) (by decide) (by decide) fun n4 H6 a4 b4 S6 D6 => ?_
    k_subL
    refine newL (by k_offL) fun q2 H7 hn7 s7 hq2 => ?_
    k_subL
    refine c_pick (S6.same s7) (by omega) hq2 (fun z => (S6.new hn7) (.inr z)) (Nat.le_of_ble_eq_true rfl) (Nat.le_of_ble_eq_true rfl) fun j2 v2 H8 hv2 S8 D8 => ?_
    obtain ⟨sh, rfl, hs1⟩ := pick_int (zs := [0, 1, 10, 20, 30, 500, 999, 1000, n3, n4]) hv2
    simp only [List.mem_cons, List.not_mem_nil, or_false] at hs1
    k_subL
    refine c_take S8 (by omega) (by decide) (by decide) fun n5 H9 a5 b5 S9 D9 => ?_
    k_subL
    refine c_take S9 (by omega) (by decide) (by decide) fun n6 H10 a6 b6 S10 D10 => ?_
    k_subL
    refine newL (by k_offL) fun q3 H11 hn11 s11 hq3 => ?_
    k_subL
    refine c_pick (S10.same s11) (by omega) hq3 (fun z => (S10.new hn11) (.inr z)) (Nat.le_of_ble_eq_true rfl) (Nat.le_of_ble_eq_true rfl) fun j3 v3 H12 hv3 S12 D12 => ?_
    obtain ⟨lo, rfl, hl1⟩ := pick_int (zs := [1, 1, 2, 3, 10, 25, 1 + n5, 1 + n6]) hv3
    simp only [List.mem_cons, List.not_mem_nil, or_false] at hl1
    k_subL
    refine c_take S12 (by omega) (by decide) (by decide) fun n7 H13 a7 b7 S13 D13 => ?_
    k_subL
    refine newT (by k_offL) fun q H14 hn14 s14 hq => ?_
    refine k q ⟨r, sh, lo, decide (n7 = 0)⟩ H14 ((S13.same s14).mono (by omega)) ?_ ⟨⟨by show 0 ≤ r; omega, by show r ≤ 1000; omega, by show 0 ≤ sh; omega, by show sh ≤ 1000; omega, by show 1 ≤ lo; omega, by show lo ≤ 1000000; omega⟩, by show lo ≤ 3000; omega, hq⟩
    exact ((((((((((((D1.trans D2).trans s3.kp).trans D4).trans D5).trans D6).trans s7.kp).trans D8).trans D9).trans D10).trans s11.kp).trans D12).trans D13).trans s14.kp
theorem cal__law_parts (T : TX K mg base) : Cal P w K mg base 4 "_law_parts" ["_law_state"] [] spParts := (cal0__law_parts T).cal (T.d__law_parts) T.g__law_parts
def spPlanned (K : PySem.W.Frag) : Sp := fun vs H Q _ => ∃ q p, vs = [.ref q] ∧ PartsAt H q p ∧ ∀ a H', Same H H' → PlanAt K H' a p → Q (.ref a) H'
theorem cal0__law_planned (T : TX K mg base) : CalA P w K mg base 5 (He.ga K "_law_planned") ["_law_parts_here"] [] (spPlanned K) := by
  refine cal_mk (k := 4) (T.d__law_planned) rfl sc__law_planned (fun _ _ _ _ _ _ us hl => match us, hl with | [_], _ => rfl) (fun vs H Q E h => ?_) (fun cdv A outer s H vs Q E hr h => ?_)
  · obtain ⟨_, _, rfl, _⟩ := h; rfl
  · have hu := hu_of hr
    clear hu
    obtain ⟨q, p, rfl, ⟨ok, hl, hq⟩, k⟩ := h
    refine ⟨_, (pss_one (ps_ret (pe_ncal (cal_Plan_D___init__ T) T.mk_Plan T.g_Plan (hr.mono (by decide)) (pa_cons (pe_ix (ix_tupK (K := K) rfl) (pv 0) pe_int (fun _ _ => rfl)) (pa_cons (pe_ix (ix_tupK (K := K) rfl) (pv 0) pe_int (fun _ _ => rfl)) (pa_cons (pe_ix (ix_tupK (K := K) rfl) (pv 0) pe_int (fun _ _ => rfl)) (pa_cons (pe_ix (ix_tupK (K := K) rfl) (pv 0) pe_int (fun _ _ => rfl)) pa_nil))))))), ?_⟩
    try dsimp only [cxOf, Cx.nox]
    refine g_start (σ' := [some _]) rfl ?_
    k_subL
    refine newI fun x dx H2 hn hn2 s2 hx => ?_
    refine ⟨x, dx, p, rfl, ok, hx, fun H3 k3 hp => ⟨rfl, ?_⟩⟩
    exact k x H3 (mutK s2 hn k3) hp
theorem cal__law_planned (T : TX K mg base) : Cal P w K mg base 5 "_law_planned" ["_law_parts_here"] [] (spPlanned K) := (cal0__law_planned T).cal (T.d__law_planned) T.g__law_planned
def spSumDrawn : Sp := fun vs H Q _ => ∃ p l B q pl, vs = [.ref p, .ref q] ∧ StAt H p l B ∧ B ≤ 9000000000 ∧ PartsAt H q pl ∧ ∀ z H', 0 ≤ z → z ≤ 20000 → StAt H' p l (B + 20) → Dr p l H H' → Q (.int z) H'
theorem cal0__law_sum_drawn (T : TX K mg base) : CalA P w K mg base 4 (He.ga K "_law_sum_drawn") ["_law_state", "_law_parts_here"] [] spSumDrawn := by
  refine cal_mk (k := 3) (T.d__law_sum_drawn) rfl sc__law_sum_drawn (fun _ _ _ _ _ _ us hl => match us, hl with | [_, _], _ => rfl) (fun vs H Q E h => ?_) (fun cdv A outer s H vs Q E hr h => ?_)
  · obtain ⟨_, _, _, _, _, rfl, _⟩ := h; rfl
  · have hu := hu_of hr
    clear hu
    obtain ⟨p, l, B, q, pl, rfl, hst, hB, ⟨ok, hl, hq⟩, k⟩ := h
    refine ⟨_, (pss_cons (ps_set (i := 2) sc__law_sum_drawn.nd rfl (Or.inl rfl) (pe_op op_fdiv (pe_op op_mul pe_int (pe_ix (ix_tupK (K := K) rfl) (pv 1) pe_int (fun _ _ => rfl))) (pe_callB (call_maxI rfl) (by rfl) T.b_max (by decide +kernel) (pa_cons pe_int (pa_cons (pe_ix (ix_tupK (K := K) rfl) (pv 1) pe_int (fun _ _ => rfl)) pa_nil)))))
      (pss_cons (ps_set (i := 3) sc__law_sum_drawn.nd rfl (Or.inl rfl) (pe_lst (pa_cons pe_int (pa_cons pe_int (pa_cons pe_int (pa_cons (pe_ix (ix_tupK (K := K) rfl) (pv 1) pe_int (fun _ _ => rfl)) (pa_cons (pe_op op_add (pe_ix (ix_tupK (K := K) rfl) (pv 1) pe_int (fun _ _ => rfl)) pe_int) (pa_cons (pe_op op_sub (pv 2) pe_int) (pa_cons (pv 2) (pa_cons (pe_op op_add (pv 2) pe_int) (pa_cons (pe_cal (cal__law_take T) (hr.mono (by decide)) (pa_cons (pv 0) (pa_cons pe_int pa_nil))) (pa_cons (pe_cal (cal__law_take T) (hr.mono (by decide)) (pa_cons (pv 0) (pa_cons pe_int pa_nil))) pa_nil))))))))))))
      (pss_one (ps_ret (pe_callB (call_maxI rfl) (by rfl) T.b_max (by decide +kernel) (pa_cons pe_int (pa_cons (pe_callB (call_minI rfl) (by rfl) T.b_min (by decide +kernel) (pa_cons pe_int (pa_cons (pe_cal (cal__law_pick T) (hr.mono (by decide)) (pa_cons (pv 0) (pa_cons (pv 3) pa_nil))) pa_nil))) pa_nil))))))), ?_⟩
    try dsimp only [cxOf, Cx.nox]
    refine g_start (σ' := [some _, some _, none, none]) rfl ?_
    have := ok.r0; have := ok.r1; have := ok.l0
    k_subL
    refine c_take hst (by omega) (by decide) (by decide) fun n1 H1 a1 b1 S1 D1 => ?_
    k_subL
    refine c_take S1 (by omega) (by decide) (by decide) fun n2 H2 a2 b2 S2 D2 => ?_
    k_subL
    refine newL (by k_offL) fun q1 H3 hn3 s3 hq1 => ?_
    k_subL
    refine c_pick (S2.same s3) (by omega) hq1 (fun z => (S2.new hn3) (.inr z)) (Nat.le_of_ble_eq_true rfl) (Nat.le_of_ble_eq_true rfl) fun j1 v1 H4 hv1 S4 D4 => ?_
    obtain ⟨z, rfl, hz1⟩ := pick_int (zs := [0, 1, 2, pl.least, pl.least + 1, 1000 * pl.least / max 1 pl.rate - 1, 1000 * pl.least / max 1 pl.rate, 1000 * pl.least / max 1 pl.rate + 1, n1, n2]) hv1
    k_subL
    exact k _ H4 (by omega) (by omega) (S4.mono (by omega)) (((D1.trans D2).trans s3.kp).trans D4)
theorem cal__law_sum_drawn (T : TX K mg base) : Cal P w K mg base 4 "_law_sum_drawn" ["_law_state", "_law_parts_here"] [] spSumDrawn := (cal0__law_sum_drawn T).cal (T.d__law_sum_drawn) T.g__law_sum_drawn
def spPaidSum (K : PySem.W.Frag) : Sp := fun vs H Q _ => ∃ (a : Addr) (p : Pl) (r : Addr) (ns : List Int), vs = [.ref a, .ref r] ∧ PlanAt K H a p ∧ H r = some (.lst (ns.map .int)) ∧ (∀ x ∈ ns, 0 ≤ x ∧ x ≤ 100000) ∧ ns.length < 1000000 ∧ ∀ H', Same H H' → Q (.int (ns.dropLast.map (p.pay 0)).sum) H'
theorem cal0__law_paid_sum (T : TX K mg base) : CalA P w K mg base 5 (He.ga K "_law_paid_sum") ["_law_made", "_law_row"] [] (spPaidSum K) := by
  refine cal_mk (k := 4) (T.d__law_paid_sum) rfl sc__law_paid_sum (fun _ _ _ _ _ _ us hl => match us, hl with | [_, _], _ => rfl) (fun vs H Q E h => ?_) (fun cdv A outer s H vs Q E hr h => ?_)
  · obtain ⟨_, _, _, _, rfl, _⟩ := h; rfl
  · have hu := hu_of hr
    clear hu
    obtain ⟨a, p, r, ns, rfl, hp, hr2, hx, hz, k⟩ := h
    refine ⟨_, (pss_one (ps_ret (pe_callB (cr_sumK (K := K) rfl rfl) (by rfl) T.b_sum (by decide +kernel) (pa_cons (pe_lc (own := [("_law_left", 2)]) (g := gName 2) (tt := tYes) (by rfl) sc__law_paid_sum.nd (pi_listK (K := K) rfl (pe_slice (sl_listK (K := K) rfl) (pv 1) po_none (po_some (pe_un un_neg pe_int)))) (blkOk_by (own := [("_law_left", 2)]) (N := ["_law_made", "_law_row", "_law_left"]) (sc := defScope sd__law_paid_sum) (by decide +kernel)) (fun _ _ _ _ _ => (pg_name (i := 2) sc__law_paid_sum.nd rfl (Or.inl rfl))) (fun _ _ _ _ _ => pts_nil) (fun _ _ _ _ _ => (pe_ix (ix_tupK (K := K) rfl) (pe_cal (cal_month T) (hr.mono (by decide)) (pa_cons (pv 0) (pa_cons (pv 2) pa_nil))) pe_int (fun _ _ => rfl)))) pa_nil)))), ?_⟩
    try dsimp only [cxOf, Cx.nox]
    refine g_start (σ' := [some _, some _, none]) rfl ?_
    k_subL
    refine g_slL (sqL hr2) fun q H1 hn s1 hq => ?_
    rw [show -(1 : Int) = -1 from rfl, cut_last, ← List.map_dropLast] at hq
    refine lcL_ints (sqL hq) (fun x => .int (p.pay 0 x)) (by rw [List.length_dropLast]; omega) ?_ ?_
    · intro z hz H2 s2 kk hk
      obtain ⟨z1, z2⟩ := hx z ((List.dropLast_sublist ns).subset hz)
      k_subL
      refine ⟨a, p, z, rfl, (hp.same s1).same s2, z1, z2, fun t H3 hn3 s3 ht => ?_⟩
      k_subL
      exact hk H3 s3
    · intro D H2 hD s2 hD2
      k_subL
      refine g_sum (ns := ns.dropLast.map (p.pay 0)) (sqL (by rw [hD2, List.map_map]; rfl)) ?_
      exact k H2 (s1.trans s2)
theorem cal__law_paid_sum (T : TX K mg base) : Cal P w K mg base 5 "_law_paid_sum" ["_law_made", "_law_row"] [] (spPaidSum K) := (cal0__law_paid_sum T).cal (T.d__law_paid_sum) T.g__law_paid_sum
def spOneRight (K : PySem.W.Frag) : Sp := fun vs H Q _ => ∃ a p b o, vs = [.ref a, .int b, optV o] ∧ PlanAt K H a p ∧ 0 ≤ b ∧ b ≤ 20000 ∧ LE p o ∧ ∀ H', Same H H' → Q (.bl true) H'
theorem cal0__law_one_right (T : TX K mg base) : CalA P w K mg base 6 (He.ga K "_law_one_right") ["_law_made", "_law_sum_here", "_law_bound"] [] (spOneRight K) := by
  refine cal_mk (k := 5) (T.d__law_one_right) rfl sc__law_one_right (fun _ _ _ _ _ _ us hl => match us, hl with | [_, _, _], _ => rfl) (fun vs H Q E h => ?_) (fun cdv A outer s H vs Q E hr h => ?_)
  · obtain ⟨_, _, _, _, rfl, _⟩ := h; rfl
  · have hu := hu_of hr
    clear hu
    obtain ⟨a, p, b, o, rfl, hp, h1, h2, hLE, k⟩ := h
    refine ⟨_, (pss_cons (ps_par (i := 3) (j := 4) (by rfl) sc__law_one_right.nd rfl rfl (by decide) rfl rfl (pa_cons (pe_cal (cal_ending T) (hr.mono (by decide)) (pa_cons (pv 0) (pa_cons (pv 1) pa_nil))) (pa_cons (pe_cal (cal_evidence T) (hr.mono (by decide)) (pa_cons (pv 0) (pa_cons (pv 1) pa_nil))) pa_nil)) (by rfl))
      (pss_cons (ps_if (PW.pt (pw_or (pt_cmpR op_ne (pe_cmpR op_isN' (pv 3) pe_non (nomark _)) (pe_and (pe_cmpR op_notN' (pv 2) pe_non (nomark _)) (pe_one (pe_cmpR op_ge (pv 1) (pv 2) (nomark _)))) (nomark _)) (pw_or1 (pt_not (pt_val (pe_cal (cal_is_evidence T) (hr.mono (by decide)) (pa_cons (pv 0) (pa_cons (pv 1) (pa_cons (pv 4) pa_nil)))))))))
      (pss_one (ps_ret pe_bl))
      pss_nil)
      (pss_cons (ps_set (i := 5) sc__law_one_right.nd rfl (Or.inl rfl) (pe_callB (call_minI rfl) (by rfl) T.b_min (by decide +kernel) (pa_cons (pv 1) (pa_cons pe_int pa_nil))))
      (pss_cons (ps_if (pt_cmpR op_ne (pe_cmpR op_eq (pe_cal (cal_least_extra T) (hr.mono (by decide)) (pa_cons (pv 0) (pa_cons (pv 5) (pa_cons pe_non pa_nil)))) pe_int (nomark _)) (pe_or (pe_cmpR op_isN' (pv 2) pe_non (nomark _)) (pe_one (pe_cmpR op_lt (pv 5) (pv 2) (nomark _)))) (nomark _))
      (pss_one (ps_ret pe_bl))
      pss_nil)
      (pss_cons (ps_if (pt_cmpR op_ne (pe_cmpR op_isN' (pv 3) pe_non (nomark _)) (pe_cmpR op_eq (pe_ix (ix_tupK (K := K) rfl) (pv 4) pe_int (fun _ _ => rfl)) pe_str (nomark _)) (nomark _))
      (pss_one (ps_ret pe_bl))
      pss_nil)
      (pss_cons (ps_if (pt_cmpR op_isN' (pv 3) pe_non (nomark _))
      (pss_one (ps_ret pe_bl))
      pss_nil)
      (pss_one (ps_ret (pe_and (pe_cmpR op_eq (pe_ix (ix_tupK (K := K) rfl) (pv 3) pe_int (fun _ _ => rfl)) (pe_op op_sub (pe_callB (call_lenK (K := K) rfl) (by rfl) T.b_len (by decide +kernel) (pa_cons (pe_ix (ix_tupK (K := K) rfl) (pv 4) pe_int (fun _ _ => rfl)) pa_nil)) pe_int) (nomark _)) (pe_one (pe_cmpR op_eq (pe_cal (cal__law_paid_sum T) (hr.mono (by decide)) (pa_cons (pv 0) (pa_cons (pe_ix (ix_tupK (K := K) rfl) (pv 4) pe_int (fun _ _ => rfl)) pa_nil))) (pe_op op_add (pv 1) (pe_ix (ix_tupK (K := K) rfl) (pv 3) pe_int (fun _ _ => rfl))) (nomark _)))))))))))), ?_⟩
    try dsimp only [cxOf, Cx.nox]
    refine g_start (σ' := [some _, some _, some _, none, none, none]) rfl ?_
    have ok := hp.1
    have N := nice ok (Int.le_refl 0)
    have hends := ends_le ok hLE h1
    have hends5 := ends_le ok hLE (b := min b 500) (by omega)
    have hnn := lst_nn N b h1
    have hE : ∀ x : Int, (x = 0 ↔ Enough p (min b 500) none 0 = true) → (decide (x = 0) = decide (lst (p.nxt 0) (min b 500) = 0)) := fun x hx => by
      unfold Enough at hx
      rw [Bool.and_true] at hx
      by_cases q : lst (p.nxt 0) (min b 500) = 0
      · rw [decide_eq_true q, decide_eq_true (hx.mpr (decide_eq_true q))]
      · rw [decide_eq_false q, decide_eq_false fun z => q (of_decide_eq_true (hx.mp z))]
    cases o with
    | none =>
      have hz : lst (p.nxt 0) b = 0 := hends.mpr fun L e => (nomatch e)
      have hz5 : lst (p.nxt 0) (min b 500) = 0 := hends5.mpr fun L e => (nomatch e)
      show tSeq _ _ _ [some (.ref a), some (.int b), some .non, none, none, none] H
      k_subL
      refine ⟨a, p, b, rfl, hp, h1, by omega, fun z => absurd z (by omega), fun _ q1 H1 hn1 s1 hq1 => ?_⟩
      k_subL
      refine ⟨a, p, b, rfl, hp.same s1, h1, by omega, fun z => absurd z (by omega), fun _ q2 l2 H2 hn2 s2 hq2 hl2 => ?_⟩
      k_subL
      refine ⟨a, p, b, q2, rfl, (hp.same s1).same s2, h1, by omega, .inr ⟨hz, l2, hq2, hl2⟩, fun H3 s3 => ?_⟩
      k_subL
      refine ⟨a, p, _, none, rfl, ((hp.same s1).same s2).same s3, by omega, by omega, (fun m e => (nomatch e)), fun x H4 hx s4 => ?_⟩
      k_subL
      rw [hE x hx, decide_eq_true hz5]
      k_subL
      refine g_itT (by rw [List.length_map]; simp) ?_
      k_subL
      refine ⟨a, p, l2, _, rfl, (((hp.same s1).same s2).same s3).same s4, s4.get (s3.get hl2), fun x hx => by have := row_mem N b h1 x hx; omega, by have := row_len N b h1; omega, fun H5 s5 => ?_⟩
      k_subL
      rw [decide_eq_true (paid_sum ok b h1 hz)]
      exact k H5 ((((s1.trans s2).trans s3).trans s4).trans s5)
    | some L =>
      by_cases hz : lst (p.nxt 0) b = 0
      · have hbL : b < L := hends.mp hz L rfl
        have hz5 : lst (p.nxt 0) (min b 500) = 0 := hends5.mpr fun L' e => by
          obtain rfl := Option.some.inj e
          omega
        show tSeq _ _ _ [some (.ref a), some (.int b), some (.int L), none, none, none] H
        k_subL
        refine ⟨a, p, b, rfl, hp, h1, by omega, fun z => absurd z (by omega), fun _ q1 H1 hn1 s1 hq1 => ?_⟩
        k_subL
        refine ⟨a, p, b, rfl, hp.same s1, h1, by omega, fun z => absurd z (by omega), fun _ q2 l2 H2 hn2 s2 hq2 hl2 => ?_⟩
        k_subL
        refine ⟨a, p, b, q2, rfl, (hp.same s1).same s2, h1, by omega, .inr ⟨hz, l2, hq2, hl2⟩, fun H3 s3 => ?_⟩
        k_subL
        refine ⟨a, p, _, none, rfl, ((hp.same s1).same s2).same s3, by omega, by omega, (fun m e => (nomatch e)), fun x H4 hx s4 => ?_⟩
        k_subL
        rw [hE x hx, decide_eq_true hz5]
        k_subL
        refine g_itT (by rw [List.length_map]; simp) ?_
        k_subL
        refine ⟨a, p, l2, _, rfl, (((hp.same s1).same s2).same s3).same s4, s4.get (s3.get hl2), fun x hx => by have := row_mem N b h1 x hx; omega, by have := row_len N b h1; omega, fun H5 s5 => ?_⟩
        k_subL
        rw [decide_eq_true (paid_sum ok b h1 hz)]
        exact k H5 ((((s1.trans s2).trans s3).trans s4).trans s5)
      · have hbL : L ≤ b := by
          by_cases q : b < L
          · exact absurd (hends.mpr fun L' e => by obtain rfl := Option.some.inj e; exact q) hz
          · omega
        show tSeq _ _ _ [some (.ref a), some (.int b), some (.int L), none, none, none] H
        k_subL
        refine ⟨a, p, b, rfl, hp, h1, by omega, fun _ H1 s1 => ?_, fun z => absurd z hz⟩
        k_subL
        refine ⟨a, p, b, rfl, hp.same s1, h1, by omega, fun _ q2 H2 hn2 s2 hq2 => ?_, fun z => absurd z hz⟩
        k_subL
        refine ⟨a, p, b, q2, rfl, (hp.same s1).same s2, h1, by omega, .inl ⟨by omega, hq2⟩, fun H3 s3 => ?_⟩
        k_subL
        refine ⟨a, p, _, none, rfl, ((hp.same s1).same s2).same s3, by omega, by omega, (fun m e => (nomatch e)), fun x H4 hx s4 => ?_⟩
        k_subL
        rw [hE x hx]
        refine g_itF ?_ ?_
        · have : (lst (p.nxt 0) (min b 500) = 0) ↔ min b 500 < L := ⟨fun z => hends5.mp z L rfl, fun z => hends5.mpr fun L' e => by obtain rfl := Option.some.inj e; exact z⟩
          simp [this]
        k_subL
        exact k H4 (((s1.trans s2).trans s3).trans s4)
theorem cal__law_one_right (T : TX K mg base) : Cal P w K mg base 6 "_law_one_right" ["_law_made", "_law_sum_here", "_law_bound"] [] (spOneRight K) := (cal0__law_one_right T).cal (T.d__law_one_right) T.g__law_one_right
end
end Pr
namespace Pr
open PySem PySem.Spec PyProof.Rows L2 Wb M78
local macro_rules | `(tactic| k_ownIn) => `(tactic| k_dflt rfl)
local macro_rules | `(tactic| k_clsL) => `(tactic| (dsimp only [wipe, List.map_cons, List.map_nil, List.set_cons_zero, List.set_cons_succ] <;> exact rfl))
local macro_rules | `(tactic| k_memK) => `(tactic| with_reducible first
  | assumption
  | (refine Same.get (by assumption) ?_; k_memK))
local macro_rules | `(tactic| k_updF) => `(tactic| with_reducible first | exact sqT (by k_memK) | assumption | (refine Same.tup (by assumption) ?_; k_updF))
local macro_rules | `(tactic| k_offL) => `(tactic| first | exact Nat.le_of_ble_eq_true rfl | (simp only [List.length_append, List.length_cons, List.length_nil, List.length_map]; exact Nat.le_trans (by omega) (by decide : 1000000 ≤ sizeLine)))
local macro_rules | `(tactic| k_intsEnd) => `(tactic| k_dflt first | exact Or.inl ⟨by omega, by omega⟩ | exact Or.inr ⟨by omega, by omega⟩ | exact ⟨by omega, by omega⟩ | (show (0 : Int) < _; omega) | exact ⟨by decide, by decide, by decide⟩)
local macro_rules | `(tactic| k_upd) => `(tactic| first | with_reducible rfl | with_reducible exact Bool.not_true | with_reducible exact Bool.not_false | (with_reducible refine decide_eq_true ?_; (k_dflt first | assumption | omega)) | (with_reducible refine decide_eq_false ?_; (k_dflt first | assumption | omega)) | with_reducible assumption | (law_purse 300 => k_dflt rfl) | (law_purse 20000 => (simp only [Bool.not_eq_eq_eq_not, Bool.not_true, Bool.not_false, beq_eq_false_iff_ne, bne_iff_ne, ne_eq, beq_iff_eq, decide_eq_true_eq, decide_eq_false_iff_not, beq_true, beq_false, Bool.false_beq, Bool.true_beq, Bool.not_not]; omega)))
local macro_rules | `(tactic| k_places) => `(tactic| with_reducible first
  | refine g_var (by k_ownIn) ?_
  | refine g_c ?_
  | refine g_op ?_
  | refine g_cons ?_
  | refine g_nil ?_
  | refine g_call ?_
  | refine g_CB ?_
  | refine g_rI0 ?_
  | refine g_sAsg ?_
  | refine g_nameN (by k_clsL) ?_
  | refine g_sIf ?_
  | refine g_ret ?_
  | refine g_asg ?_
  | refine g_ifS ?_
  | refine g_nx ?_
  | refine g_rt ?_
  | refine g_test ?_
  | refine g_tB ?_
  | refine g_exB ?_
  | refine g_exI ?_
  | refine g_eqI ?_
  | refine g_neI ?_
  | refine g_eqS ?_
  | refine g_neS ?_
  | refine g_eqB ?_
  | refine g_neB ?_
  | refine g_isNr ?_
  | refine g_notNr ?_
  | refine g_isNi ?_
  | refine g_notNi ?_
  | refine g_isNb ?_
  | refine g_notNb ?_
  | refine g_isNs ?_
  | refine g_notNs ?_
  | refine g_isNn ?_
  | refine g_notNn ?_
  | refine g_and ?_
  | refine g_or ?_
  | refine g_not ?_
  | refine g_andV ?_
  | refine g_orV ?_
  | refine g_notV ?_
  | refine g_if ?_
  | refine g_itT (by k_upd) ?_
  | refine g_itF (by k_upd) ?_
  | refine g_chain ?_
  | refine g_un ?_
  | refine g_rU ?_
  | refine g_fld ?_
  | refine g_exF (by k_memK) (by assumption) (by assumption) (by k_ownIn) ?_
  | refine g_meth ?_
  | refine g_prop ?_
  | refine g_exP (by k_memK) ?_
  | refine g_exM (by k_memK) (by k_ownIn) ?_
  | refine g_tup ?_
  | refine g_lst ?_
  | refine g_ixT (by k_updF) (by k_ownIn) ?_
  | refine g_gTup (by k_updF) (by k_ownIn) ?_
  | refine g_gCons ?_
  | refine g_gNil ?_
  | refine g_sDrop ?_
  | refine g_drop ?_
  | refine g_sAug (by k_ownIn) ?_
  | refine g_aug (by k_ownIn) ?_
  | refine g_sPar ?_
  | refine g_par ?_
  | refine g_ex2 ?_
  | refine g_next ?_
  | refine g_retS ?_
  | refine g_is_int_int ?_
  | refine g_is_int_bool ?_
  | refine g_is_bl_bool ?_
  | refine g_is_bl_int ?_
  | refine g_is_str_str ?_
  | refine g_is_int_str ?_
  | refine g_is_str_int ?_
  | refine g_is_str_bool ?_
  | refine g_is_bl_str ?_
  | refine g_is_lst_list (by k_memK) ?_
  | refine g_is_lst_tuple (by k_memK) ?_
  | refine g_is_lst_dict (by k_memK) ?_
  | refine g_is_tup_list (by k_memK) ?_
  | refine g_is_tup_tuple (by k_memK) ?_
  | refine g_is_tup_dict (by k_memK) ?_
  | refine g_is_dK_list (by k_memK) ?_
  | refine g_is_dK_tuple (by k_memK) ?_
  | refine g_is_dK_dict (by k_memK) ?_
  | refine g_is_dT_list (by k_memK) ?_
  | refine g_is_dT_tuple (by k_memK) ?_
  | refine g_is_dT_dict (by k_memK) ?_
  | refine g_isiC (by assumption) (by k_memK) ?_
  | refine g_forL ?_
  | refine g_forR1 ?_
  | refine g_forT ?_
  | refine g_lcL ?_
  | refine g_sFld ?_
  | refine g_ssFld ?_
  | refine g_dget ?_
  | refine g_sDput ?_
  | refine g_ssDput ?_
  | refine g_BM ?_
  | refine g_BM0 ?_
  | refine g_tyL (sqL (by k_memK)) ?_
  | refine g_tyS ?_
  | refine g_lenL (sqL (by k_memK)) ?_
  | refine g_lenT (sqT (by k_memK)) ?_
  | refine g_max ?_
  | refine g_min ?_
  | refine g_intI ?_
  | refine g_intB ?_
  | refine g_sl ?_
  | refine g_noPart ?_
  | refine g_part ?_
  | refine g_rI (by k_intsEnd) ?_
  | refine g_wipe (by k_ownIn) ?_
  | refine g_make ?_
  | refine g_seq ?_)
local macro_rules | `(tactic| k_subL) => `(tactic| repeat (k_places))

local macro_rules | `(tactic| k_places) => `(tactic| with_reducible refine c_isNumberIn (by k_dflt omega) (by k_dflt omega) ?_)
local macro_rules | `(tactic| k_allIn) => `(tactic| with_reducible first
  | assumption
  | (refine PlanAt.same (by assumption) ?_; k_allIn))
local macro_rules | `(tactic| k_places) => `(tactic| with_reducible refine c_needPlan (by k_allIn) ?_)
local macro_rules | `(tactic| k_places) => `(tactic| with_reducible refine c_needBalance (by k_allIn) (by k_dflt omega) (by k_dflt omega) ?_)

local macro_rules | `(tactic| k_places) => `(tactic| with_reducible refine g_ixL (sqL (by k_memK)) (by k_ownIn) ?_)

section
variable {P : Program} {w : World} {K : PySem.W.Frag} {mg : Str → Option Value} {base : Heap}
theorem PlanAt.dr {H H' : Hp} {p l a : Addr} {B : Int} {pl : Pl} (S : StAt H p l B) (D : Dr p l H H') (h : PlanAt K H a pl) : PlanAt K H' a pl := by
  obtain ⟨o, dx, t, h1, h2⟩ := h
  exact ⟨o, dx, t, D _ _ h1 (S.ins h1), D _ _ h2 (S.tup h2)⟩
theorem PartsAt.dr {H H' : Hp} {p l a : Addr} {B : Int} {pl : Pl} (S : StAt H p l B) (D : Dr p l H H') (h : PartsAt H a pl) : PartsAt H' a pl := ⟨h.1, h.2.1, D _ _ h.2.2 (S.tup h.2.2)⟩
theorem PartsAt.same {H H' : Hp} {a : Addr} {pl : Pl} (s : Same H H') (h : PartsAt H a pl) : PartsAt H' a pl := ⟨h.1, h.2.1, s.get h.2.2⟩
theorem two_sorted {s t : Int} {ns : List Int} (hp : ns.Perm [s, t]) (hs : ns.Pairwise (· ≤ ·)) : ∃ x y, ns = [x, y] ∧ x ≤ y ∧ ((x = s ∧ y = t) ∨ (x = t ∧ y = s)) := by
  have hl := hp.length_eq
  match ns, hl, hp, hs with
  | [x, y], _, hp, hs =>
    refine ⟨x, y, rfl, ?_, ?_⟩
    · exact (List.pairwise_cons.mp hs).1 y (List.mem_singleton.mpr rfl)
    · have hx : x ∈ [s, t] := hp.subset List.mem_cons_self
      simp only [List.mem_cons, List.not_mem_nil, or_false] at hx
      rcases hx with rfl | rfl
      · exact .inl ⟨rfl, List.singleton_inj.mp (List.perm_singleton.mp (List.Perm.cons_inv hp))⟩
      · exact .inr ⟨rfl, List.singleton_inj.mp (List.perm_singleton.mp (List.Perm.cons_inv (hp.trans (List.Perm.swap _ _ _))))⟩
/-- what ending tells -/
def endD (p : Pl) (b : Int) : PyData := if lst (p.nxt 0) b = 0 then .tuple [.int ((row (p.nxt 0) b).length - 1), .int ((row (p.nxt 0) b).map p.inter).sum] else .none
theorem endD_yes {p : Pl} {b : Int} {v : V} {H : Hp} (h : lst (p.nxt 0) b = 0) (r : Dp K H v (endD p b)) : ∃ q, v = .ref q ∧ SqT K H q [.int ((row (p.nxt 0) b).length - 1), .int ((row (p.nxt 0) b).map p.inter).sum] := by
  unfold endD at r
  rw [if_pos h] at r
  cases r with
  | tup hs hr =>
    cases hr with
    | cons a1 hr =>
      cases hr with
      | cons a2 hr =>
        cases hr
        cases a1
        cases a2
        exact ⟨_, rfl, hs⟩
theorem endD_no {p : Pl} {b : Int} {v : V} {H : Hp} (h : ¬ lst (p.nxt 0) b = 0) (r : Dp K H v (endD p b)) : v = .non := by
  unfold endD at r
  rw [if_neg h] at r
  cases r
  rfl
/-- a balance ends in so many months: what the three tell is one -/
theorem isIn_most {p : Pl} (ok : p.Ok) {y m F : Int} (hy : 0 ≤ y) (hm : 1 ≤ m) (hF : ∀ b, 0 ≤ b → (b ≤ F ↔ EndsIn (p.nxt 0) m.toNat b)) : (y ≤ F ↔ lst (p.nxt 0) y = 0 ∧ ((row (p.nxt 0) y).length : Int) - 1 ≤ m) := by
  rw [hF y hy, endsIn_iff (nice ok (Int.le_refl 0)) _ _ hy]
  constructor
  · rintro ⟨h1, h2⟩; exact ⟨h1, by omega⟩
  · rintro ⟨h1, h2⟩; exact ⟨h1, by omega⟩
theorem isIn_all {p : Pl} (ok : p.Ok) (hs : p.share = 1000) {y m : Int} (hy : 0 ≤ y) (hm : 1 ≤ m) : lst (p.nxt 0) y = 0 ∧ ((row (p.nxt 0) y).length : Int) - 1 ≤ m := by
  have N := nice ok (Int.le_refl 0)
  have h := (endsIn_iff N 1 y hy).mp (show p.nxt 0 y = 0 from nxt_all ok hs hy)
  exact ⟨h.1, by omega⟩
theorem enough_iff {p : Pl} {y m : Int} : Enough p y (some m) 0 = true ↔ lst (p.nxt 0) y = 0 ∧ ((row (p.nxt 0) y).length : Int) - 1 ≤ m := by
  unfold Enough
  rw [Bool.and_eq_true, decide_eq_true_eq, decide_eq_true_eq]
theorem sqT_dr {H H' : Hp} {p l a : Addr} {B : Int} {xs : List V} (S : StAt H p l B) (D : Dr p l H H') (h : SqT K H a xs) : SqT K H' a xs := by
  rcases h with (h | ⟨o, h⟩) | h
  · exact .inl (.inl (D _ _ h (S.tup h)))
  · refine .inl (.inr ⟨o, D _ _ h fun z => ?_⟩)
    obtain ⟨_, h1⟩ := S.dic
    obtain ⟨_, h2⟩ := S.lst
    exact z.elim (ne_of h h1 (fun z => nomatch z)) (ne_of h h2 (fun z => nomatch z))
  · exact .inr h
/-- what is told of two balances, as numbers -/
structure EndsFacts (p : Pl) (y : Int) (ox oy : Option (Int × Int)) : Prop where
  mono : ∀ my iy, oy = some (my, iy) → ∃ mx ix, ox = some (mx, ix) ∧ mx ≤ my ∧ ix ≤ iy
  all : p.share = 1000 → ∀ m, 1 ≤ m → ∀ my iy, oy = some (my, iy) → my ≤ m
  allN : p.share = 1000 → oy ≠ none
  most : ∀ m F : Int, 1 ≤ m → (∀ b, 0 ≤ b → (b ≤ F ↔ EndsIn (p.nxt 0) m.toNat b)) → ∀ my iy, oy = some (my, iy) → (y ≤ F ↔ my ≤ m)
  mostN : ∀ m F : Int, 1 ≤ m → (∀ b, 0 ≤ b → (b ≤ F ↔ EndsIn (p.nxt 0) m.toNat b)) → oy = none → ¬ y ≤ F
  ext : ∀ m xx : Int, (xx = 0 ↔ Enough p y (some m) 0 = true) → ∀ my iy, oy = some (my, iy) → (xx = 0 ↔ my ≤ m)
  extN : ∀ m xx : Int, (xx = 0 ↔ Enough p y (some m) 0 = true) → oy = none → ¬ xx = 0
def endO : Option (Int × Int) → PyData
  | none => .none
  | some (m, i) => .tuple [.int m, .int i]
def endOf (p : Pl) (b : Int) : Option (Int × Int) := if lst (p.nxt 0) b = 0 then some (((row (p.nxt 0) b).length : Int) - 1, ((row (p.nxt 0) b).map p.inter).sum) else none
theorem endD_of (p : Pl) (b : Int) : endD p b = endO (endOf p b) := by
  unfold endD endOf
  split <;> rfl
theorem endOf_some {p : Pl} {b m i : Int} (h : endOf p b = some (m, i)) : lst (p.nxt 0) b = 0 ∧ m = ((row (p.nxt 0) b).length : Int) - 1 ∧ i = ((row (p.nxt 0) b).map p.inter).sum := by
  unfold endOf at h
  split at h
  · rename_i h0
    cases h
    exact ⟨h0, rfl, rfl⟩
  · cases h
theorem endOf_none {p : Pl} {b : Int} (h : endOf p b = none) : ¬ lst (p.nxt 0) b = 0 := by
  unfold endOf at h
  split at h
  · cases h
  · assumption
theorem ends_facts {p : Pl} (ok : p.Ok) {x y : Int} (hx : 0 ≤ x) (hxy : x ≤ y) (hy : 0 ≤ y) : ∃ ox oy, endD p x = endO ox ∧ endD p y = endO oy ∧ EndsFacts p y ox oy := by
  have N := nice ok (Int.le_refl 0)
  refine ⟨endOf p x, endOf p y, endD_of p x, endD_of p y, ⟨?_, ?_, ?_, ?_, ?_, ?_, ?_⟩⟩
  · intro my iy e
    obtain ⟨h0, rfl, rfl⟩ := endOf_some e
    obtain ⟨h1, h2, h3⟩ := row_two N (g := p.inter) (fun a b _ h => inter_mono ok h) (by rw [inter_0]; decide) y hy x hx hxy h0
    refine ⟨((row (p.nxt 0) x).length : Int) - 1, ((row (p.nxt 0) x).map p.inter).sum, by unfold endOf; rw [if_pos h1], ?_, h3⟩
    omega
  · intro hs m hm my iy e
    obtain ⟨h0, rfl, rfl⟩ := endOf_some e
    exact (isIn_all ok hs hy hm).2
  · intro hs e
    exact endOf_none e (isIn_all ok hs hy (Int.le_refl 1)).1
  · intro m F hm hF my iy e
    obtain ⟨h0, rfl, rfl⟩ := endOf_some e
    rw [isIn_most ok hy hm hF]
    exact ⟨fun z => z.2, fun z => ⟨h0, z⟩⟩
  · intro m F hm hF e z
    exact endOf_none e ((isIn_most ok hy hm hF).mp z).1
  · intro m xx hxx my iy e
    obtain ⟨h0, rfl, rfl⟩ := endOf_some e
    rw [hxx, enough_iff]
    exact ⟨fun z => z.2, fun z => ⟨h0, z⟩⟩
  · intro m xx hxx e z
    exact endOf_none e (enough_iff.mp (hxx.mp z)).1
theorem _root_.L2.Dp.pair {H : Hp} {v : V} {m i : Int} (r : Dp K H v (endO (some (m, i)))) : ∃ q, v = .ref q ∧ SqT K H q [.int m, .int i] := by
  unfold endO at r
  cases r with
  | tup hs hr =>
    cases hr with
    | cons a1 hr =>
      cases hr with
      | cons a2 hr =>
        cases hr
        cases a1
        cases a2
        exact ⟨_, rfl, hs⟩
/-- behind the comprehension of a lap -/
def TailOk (K : PySem.W.Frag) (t : TS) : Prop := ∀ (nx bk ct : L2.St → Hp → Prop) (rt : VK) (a p l i q ad pr Df : Addr) (iv jv : V) (o : Option Int) (v9 v10 v11 : Option V) (pl : Pl) (x y B : Int) (vx vy : V) (H : Hp),
  StAt H p l B → B ≤ 1000000000 → PlanAt K H ad pl → LE pl o → 0 ≤ x → x ≤ y → y ≤ 20000 → H pr = some (.lst [.int x, .int y]) → H Df = some (.lst [vx, vy]) → ¬ (pr = p ∨ pr = l) → ¬ (Df = p ∨ Df = l) →
  Dp K H vx (endD pl x) → Dp K H vy (endD pl y) →
  (∀ v9' v10' v11' H', StAt H' p l (B + 1) → Dr p l H H' → nx [some (.ref a), some (.ref p), some iv, some (.ref q), some (.ref ad), some (optV o), some jv, some (.ref pr), some (.ref Df), some v9', some v10', some v11', none] H') →
  t ⟨nx, rt, bk, ct⟩ [some (.ref a), some (.ref p), some iv, some (.ref q), some (.ref ad), some (optV o), some jv, some (.ref pr), some (.ref Df), v9, v10, v11, none] H
abbrev ts_law_tail : List Stmt := ((bodyOf ((bodyOf ((defBody sd_law).getD 1 (.Pass ⟨0, 0, 0, 0⟩))).getD 3 (.Pass ⟨0, 0, 0, 0⟩))).drop 2)
theorem law_tail (T : TX K mg base) (cdv : Value) (A : Around) (outer : List Env) (s : Shared) (H0 : Hp) (E0' : XK) (hr : Room 6 (A.deeper (envOfC dd_law.qual dd_law.scope s.heap.objs.size (He.ga K "law") cdv))) :
    ∃ t, PSs (cxOf CX0 P w K mg base ["_law_script", "_law_state", "_law_turn", "_law_parts_here", "_law_made", "_law_bound", "_law_lap", "_law_pair", "_law_found", "_law_months_here", "_law_most", "_law_is_in", "_law_left"] dd_law.qual dd_law.scope (He.ga K "law") cdv A outer s H0 E0').nox ts_law_tail t ∧ (TailOk K) t := by
  have hu := hu_of hr
  refine ⟨_, (pss_cons (ps_if (PW.pt (pw_or (pt_not (pt_val (pe_cal (cal__law_one_right T) (hr.mono (by decide)) (pa_cons (pv 4) (pa_cons (pe_ix (ix_listK (K := K) rfl) (pv 7) pe_int (fun _ _ => rfl)) (pa_cons (pv 5) pa_nil)))))) (pw_or1 (pt_not (pt_val (pe_cal (cal__law_one_right T) (hr.mono (by decide)) (pa_cons (pv 4) (pa_cons (pe_ix (ix_listK (K := K) rfl) (pv 7) pe_int (fun _ _ => rfl)) (pa_cons (pv 5) pa_nil)))))))))
    (pss_one (ps_ret pe_bl))
    pss_nil)
    (pss_cons (ps_if (PW.pt (pw_and (pt_cmpR op_isN' (pe_ix (ix_listK (K := K) rfl) (pv 8) pe_int (fun _ _ => rfl)) pe_non (nomark _)) (pw_and1 (pt_cmpR op_notN' (pe_ix (ix_listK (K := K) rfl) (pv 8) pe_int (fun _ _ => rfl)) pe_non (nomark _)))))
    (pss_one (ps_ret pe_bl))
    pss_nil)
    (pss_cons (ps_if (PW.pt (pw_and (pt_cmpR op_notN' (pe_ix (ix_listK (K := K) rfl) (pv 8) pe_int (fun _ _ => rfl)) pe_non (nomark _)) (pw_and1 (PW.pt (pw_or (pt_cmpR op_gt (pe_ix (ix_tupK (K := K) rfl) (pe_ix (ix_listK (K := K) rfl) (pv 8) pe_int (fun _ _ => rfl)) pe_int (fun _ _ => rfl)) (pe_ix (ix_tupK (K := K) rfl) (pe_ix (ix_listK (K := K) rfl) (pv 8) pe_int (fun _ _ => rfl)) pe_int (fun _ _ => rfl)) (nomark _)) (pw_or1 (pt_cmpR op_gt (pe_ix (ix_tupK (K := K) rfl) (pe_ix (ix_listK (K := K) rfl) (pv 8) pe_int (fun _ _ => rfl)) pe_int (fun _ _ => rfl)) (pe_ix (ix_tupK (K := K) rfl) (pe_ix (ix_listK (K := K) rfl) (pv 8) pe_int (fun _ _ => rfl)) pe_int (fun _ _ => rfl)) (nomark _))))))))
    (pss_one (ps_ret pe_bl))
    pss_nil)
    (pss_cons (ps_set (i := 9) sc_law.nd rfl (Or.inl rfl) (pe_op op_add pe_int (pe_cal (cal__law_take T) (hr.mono (by decide)) (pa_cons (pv 1) (pa_cons pe_int pa_nil)))))
    (pss_cons (ps_par (i := 10) (j := 11) (by rfl) sc_law.nd rfl rfl (by decide) rfl rfl (pa_cons (pe_cal (cal_most_within T) (hr.mono (by decide)) (pa_cons (pv 4) (pa_cons (pv 9) pa_nil))) (pa_cons (pe_and (pe_cmpR op_notN' (pe_ix (ix_listK (K := K) rfl) (pv 8) pe_int (fun _ _ => rfl)) pe_non (nomark _)) (pe_one (pe_cmpR op_le (pe_ix (ix_tupK (K := K) rfl) (pe_ix (ix_listK (K := K) rfl) (pv 8) pe_int (fun _ _ => rfl)) pe_int (fun _ _ => rfl)) (pv 9) (nomark _)))) pa_nil)) (by rfl))
    (pss_cons (ps_if (pt_cmpR op_ne (pe_or (pe_cmpR op_isN' (pv 10) pe_non (nomark _)) (pe_one (pe_cmpR op_le (pe_ix (ix_listK (K := K) rfl) (pv 7) pe_int (fun _ _ => rfl)) (pv 10) (nomark _)))) (pv 11) (nomark _))
    (pss_one (ps_ret pe_bl))
    pss_nil)
    (pss_one (ps_if (PW.pt (pw_and (pt_cmpR op_le (pe_ix (ix_listK (K := K) rfl) (pv 7) pe_int (fun _ _ => rfl)) pe_int (nomark _)) (pw_and1 (pt_cmpR op_ne (pe_cmpR op_eq (pe_cal (cal_least_extra T) (hr.mono (by decide)) (pa_cons (pv 4) (pa_cons (pe_ix (ix_listK (K := K) rfl) (pv 7) pe_int (fun _ _ => rfl)) (pa_cons (pv 9) pa_nil)))) pe_int (nomark _)) (pv 11) (nomark _)))))
    (pss_one (ps_ret pe_bl))
    pss_nil)))))))), ?_⟩
  try dsimp only [cxOf, Cx.nox]
  intro nx bk ct rt a p l i q ad pr Df iv jv o v9 v10 v11 pl x y B vx vy H S9 hB hpl9 hLE hx0 hxy hy2 hpr9 hys9 hprl hDl rx ry k
  have ok := hpl9.1
  have hy0 : 0 ≤ y := by omega
  k_subL
  refine ⟨ad, pl, x, o, rfl, hpl9, hx0, by omega, hLE, fun H10 s10 => ?_⟩
  k_subL
  refine ⟨ad, pl, y, o, rfl, hpl9.same s10, by omega, hy2, hLE, fun H11 s11 => ?_⟩
  replace hys9 := s11.get (s10.get hys9)
  replace hpr9 := s11.get (s10.get hpr9)
  replace rx := Dp.same (s10.trans s11) rx
  replace ry := Dp.same (s10.trans s11) ry
  replace S9 := (S9.same s10).same s11
  replace hpl9 := (hpl9.same s10).same s11
  replace k : ∀ v9' v10' v11' H', StAt H' p l (B + 1) → Dr p l H11 H' → nx [some (.ref a), some (.ref p), some iv, some (.ref q), some (.ref ad), some (optV o), some jv, some (.ref pr), some (.ref Df), some v9', some v10', some v11', none] H' := fun v9' v10' v11' H' S' D' => k v9' v10' v11' H' S' ((s10.trans s11).kp.trans D')
  clear s10 s11 hLE
  obtain ⟨ox, oy, ex, ey, hE⟩ := ends_facts ok hx0 hxy hy0
  rw [ex] at rx
  rw [ey] at ry
  clear ex ey
  cases oy with
  | some zy =>
    obtain ⟨my, iy⟩ := zy
    obtain ⟨mx, ix, rfl, hm, hi⟩ := hE.mono my iy rfl
    obtain ⟨qx, rfl, tx⟩ := Dp.pair rx
    obtain ⟨qy, rfl, ty⟩ := Dp.pair ry
    k_subL
    refine c_take S9 (by omega) (by decide) (by decide) fun n H12 n0 n1 S12 D12 => ?_
    replace hpl9 := hpl9.dr S9 D12
    replace hys9 := D12 _ _ hys9 hDl
    replace hpr9 := D12 _ _ hpr9 hprl
    replace ty := sqT_dr S9 D12 ty
    clear tx rx ry
    k_subL
    refine ⟨ad, pl, 1 + n, rfl, hpl9, by omega, by omega, fun hs => ?_, fun hs F H13 hF hFE s13 => ?_⟩
    · have hall := hE.all hs (1 + n) (by omega) my iy rfl
      k_subL
      refine g_itD (fun h3000 => ?_) (fun h3000 => ?_)
      · k_subL
        refine ⟨ad, pl, y, some (1 + n), rfl, hpl9, by omega, by omega, fun m e => by obtain rfl := Option.some.inj e; omega, fun xx HN hxx sN => ?_⟩
        have e2 : decide (xx = 0) = decide (my ≤ 1 + n) := decide_eq_decide.mpr (hE.ext (1 + n) xx hxx my iy rfl)
        clear hxx
        k_subL
        exact k _ _ _ HN (S12.same sN) (D12.trans sN.kp)
      · k_subL
        exact k _ _ _ _ S12 D12
    · have hmost := hE.most (1 + n) F (by omega) hFE my iy rfl
      clear hFE
      replace hys9 := s13.get hys9
      replace hpr9 := s13.get hpr9
      replace hpl9 := hpl9.same s13
      replace ty := s13.tup ty
      have em : decide (y ≤ F) = decide (my ≤ 1 + n) := decide_eq_decide.mpr hmost
      clear hmost
      k_subL
      refine g_itD (fun h3000 => ?_) (fun h3000 => ?_)
      · k_subL
        refine ⟨ad, pl, y, some (1 + n), rfl, hpl9, by omega, by omega, fun m e => by obtain rfl := Option.some.inj e; omega, fun xx HN hxx sN => ?_⟩
        have e2 : decide (xx = 0) = decide (my ≤ 1 + n) := decide_eq_decide.mpr (hE.ext (1 + n) xx hxx my iy rfl)
        clear hxx
        k_subL
        exact k _ _ _ HN ((S12.same s13).same sN) ((D12.trans s13.kp).trans sN.kp)
      · k_subL
        exact k _ _ _ _ (S12.same s13) (D12.trans s13.kp)
  | none =>
    obtain rfl : vy = .non := by
      unfold endO at ry
      cases ry
      rfl
    cases ox with
    | some zx =>
      obtain ⟨mx, ix⟩ := zx
      obtain ⟨qx, rfl, tx⟩ := Dp.pair rx
      k_subL
      refine c_take S9 (by omega) (by decide) (by decide) fun n H12 n0 n1 S12 D12 => ?_
      replace hpl9 := hpl9.dr S9 D12
      replace hys9 := D12 _ _ hys9 hDl
      replace hpr9 := D12 _ _ hpr9 hprl
      clear tx rx ry
      k_subL
      refine ⟨ad, pl, 1 + n, rfl, hpl9, by omega, by omega, fun hs => ?_, fun hs F H13 hF hFE s13 => ?_⟩
      · exact absurd rfl (hE.allN hs)
      · have hmost := hE.mostN (1 + n) F (by omega) hFE rfl
        clear hFE
        replace hys9 := s13.get hys9
        replace hpr9 := s13.get hpr9
        replace hpl9 := hpl9.same s13
        k_subL
        refine g_itD (fun h3000 => ?_) (fun h3000 => ?_)
        · k_subL
          refine ⟨ad, pl, y, some (1 + n), rfl, hpl9, by omega, by omega, fun m e => by obtain rfl := Option.some.inj e; omega, fun xx HN hxx sN => ?_⟩
          have e2 := hE.extN (1 + n) xx hxx rfl
          clear hxx
          k_subL
          exact k _ _ _ HN ((S12.same s13).same sN) ((D12.trans s13.kp).trans sN.kp)
        · k_subL
          exact k _ _ _ _ (S12.same s13) (D12.trans s13.kp)
    | none =>
      obtain rfl : vx = .non := by
        unfold endO at rx
        cases rx
        rfl
      k_subL
      refine c_take S9 (by omega) (by decide) (by decide) fun n H12 n0 n1 S12 D12 => ?_
      replace hpl9 := hpl9.dr S9 D12
      replace hys9 := D12 _ _ hys9 hDl
      replace hpr9 := D12 _ _ hpr9 hprl
      clear rx ry
      k_subL
      refine ⟨ad, pl, 1 + n, rfl, hpl9, by omega, by omega, fun hs => ?_, fun hs F H13 hF hFE s13 => ?_⟩
      · exact absurd rfl (hE.allN hs)
      · have hmost := hE.mostN (1 + n) F (by omega) hFE rfl
        clear hFE
        replace hys9 := s13.get hys9
        replace hpr9 := s13.get hpr9
        replace hpl9 := hpl9.same s13
        k_subL
        refine g_itD (fun h3000 => ?_) (fun h3000 => ?_)
        · k_subL
          refine ⟨ad, pl, y, some (1 + n), rfl, hpl9, by omega, by omega, fun m e => by obtain rfl := Option.some.inj e; omega, fun xx HN hxx sN => ?_⟩
          have e2 := hE.extN (1 + n) xx hxx rfl
          clear hxx
          k_subL
          exact k _ _ _ HN ((S12.same s13).same sN) ((D12.trans s13.kp).trans sN.kp)
        · k_subL
          exact k _ _ _ _ (S12.same s13) (D12.trans s13.kp)
end
end Pr
namespace Pr
open PySem PySem.Spec PyProof.Rows L2 Wb M78
local macro_rules | `(tactic| k_ownIn) => `(tactic| k_dflt rfl)
local macro_rules | `(tactic| k_clsL) => `(tactic| (dsimp only [wipe, List.map_cons, List.map_nil, List.set_cons_zero, List.set_cons_succ] <;> exact rfl))
local macro_rules | `(tactic| k_memK) => `(tactic| with_reducible first
  | assumption
  | (refine Same.get (by assumption) ?_; k_memK))
local macro_rules | `(tactic| k_updF) => `(tactic| with_reducible first | exact sqT (by k_memK) | assumption | (refine Same.tup (by assumption) ?_; k_updF))
local macro_rules | `(tactic| k_offL) => `(tactic| first | exact Nat.le_of_ble_eq_true rfl | (simp only [List.length_append, List.length_cons, List.length_nil, List.length_map]; exact Nat.le_trans (by omega) (by decide : 1000000 ≤ sizeLine)))
local macro_rules | `(tactic| k_intsEnd) => `(tactic| k_dflt first | exact Or.inl ⟨by omega, by omega⟩ | exact Or.inr ⟨by omega, by omega⟩ | exact ⟨by omega, by omega⟩ | (show (0 : Int) < _; omega) | exact ⟨by decide, by decide, by decide⟩)
local macro_rules | `(tactic| k_upd) => `(tactic| first | with_reducible rfl | with_reducible exact Bool.not_true | with_reducible exact Bool.not_false | (with_reducible refine decide_eq_true ?_; (k_dflt first | assumption | omega)) | (with_reducible refine decide_eq_false ?_; (k_dflt first | assumption | omega)) | with_reducible assumption | (law_purse 300 => k_dflt rfl) | (law_purse 20000 => (simp only [Bool.not_eq_eq_eq_not, Bool.not_true, Bool.not_false, beq_eq_false_iff_ne, bne_iff_ne, ne_eq, beq_iff_eq, decide_eq_true_eq, decide_eq_false_iff_not, beq_true, beq_false, Bool.false_beq, Bool.true_beq, Bool.not_not]; omega)))
local macro_rules | `(tactic| k_places) => `(tactic| with_reducible first
  | refine g_var (by k_ownIn) ?_
  | refine g_c ?_
  | refine g_op ?_
  | refine g_cons ?_
  | refine g_nil ?_
  | refine g_call ?_
  | refine g_CB ?_
  | refine g_rI0 ?_
  | refine g_sAsg ?_
  | refine g_nameN (by k_clsL) ?_
  | refine g_sIf ?_
  | refine g_ret ?_
  | refine g_asg ?_
  | refine g_ifS ?_
  | refine g_nx ?_
  | refine g_rt ?_
  | refine g_test ?_
  | refine g_tB ?_
  | refine g_exB ?_
  | refine g_exI ?_
  | refine g_eqI ?_
  | refine g_neI ?_
  | refine g_eqS ?_
  | refine g_neS ?_
  | refine g_eqB ?_
  | refine g_neB ?_
  | refine g_isNr ?_
  | refine g_notNr ?_
  | refine g_isNi ?_
  | refine g_notNi ?_
  | refine g_isNb ?_
  | refine g_notNb ?_
  | refine g_isNs ?_
  | refine g_notNs ?_
  | refine g_isNn ?_
  | refine g_notNn ?_
  | refine g_and ?_
  | refine g_or ?_
  | refine g_not ?_
  | refine g_andV ?_
  | refine g_orV ?_
  | refine g_notV ?_
  | refine g_if ?_
  | refine g_itT (by k_upd) ?_
  | refine g_itF (by k_upd) ?_
  | refine g_chain ?_
  | refine g_un ?_
  | refine g_rU ?_
  | refine g_fld ?_
  | refine g_exF (by k_memK) (by assumption) (by assumption) (by k_ownIn) ?_
  | refine g_meth ?_
  | refine g_prop ?_
  | refine g_exP (by k_memK) ?_
  | refine g_exM (by k_memK) (by k_ownIn) ?_
  | refine g_tup ?_
  | refine g_lst ?_
  | refine g_ixT (by k_updF) (by k_ownIn) ?_
  | refine g_gTup (by k_updF) (by k_ownIn) ?_
  | refine g_gCons ?_
  | refine g_gNil ?_
  | refine g_sDrop ?_
  | refine g_drop ?_
  | refine g_sAug (by k_ownIn) ?_
  | refine g_aug (by k_ownIn) ?_
  | refine g_sPar ?_
  | refine g_par ?_
  | refine g_ex2 ?_
  | refine g_next ?_
  | refine g_retS ?_
  | refine g_is_int_int ?_
  | refine g_is_int_bool ?_
  | refine g_is_bl_bool ?_
  | refine g_is_bl_int ?_
  | refine g_is_str_str ?_
  | refine g_is_int_str ?_
  | refine g_is_str_int ?_
  | refine g_is_str_bool ?_
  | refine g_is_bl_str ?_
  | refine g_is_lst_list (by k_memK) ?_
  | refine g_is_lst_tuple (by k_memK) ?_
  | refine g_is_lst_dict (by k_memK) ?_
  | refine g_is_tup_list (by k_memK) ?_
  | refine g_is_tup_tuple (by k_memK) ?_
  | refine g_is_tup_dict (by k_memK) ?_
  | refine g_is_dK_list (by k_memK) ?_
  | refine g_is_dK_tuple (by k_memK) ?_
  | refine g_is_dK_dict (by k_memK) ?_
  | refine g_is_dT_list (by k_memK) ?_
  | refine g_is_dT_tuple (by k_memK) ?_
  | refine g_is_dT_dict (by k_memK) ?_
  | refine g_isiC (by assumption) (by k_memK) ?_
  | refine g_forL ?_
  | refine g_forR1 ?_
  | refine g_forT ?_
  | refine g_lcL ?_
  | refine g_sFld ?_
  | refine g_ssFld ?_
  | refine g_dget ?_
  | refine g_sDput ?_
  | refine g_ssDput ?_
  | refine g_BM ?_
  | refine g_BM0 ?_
  | refine g_tyL (sqL (by k_memK)) ?_
  | refine g_tyS ?_
  | refine g_lenL (sqL (by k_memK)) ?_
  | refine g_lenT (sqT (by k_memK)) ?_
  | refine g_max ?_
  | refine g_min ?_
  | refine g_intI ?_
  | refine g_intB ?_
  | refine g_sl ?_
  | refine g_noPart ?_
  | refine g_part ?_
  | refine g_rI (by k_intsEnd) ?_
  | refine g_wipe (by k_ownIn) ?_
  | refine g_make ?_
  | refine g_seq ?_)
local macro_rules | `(tactic| k_subL) => `(tactic| repeat (k_places))

local macro_rules | `(tactic| k_places) => `(tactic| with_reducible refine c_isNumberIn (by k_dflt omega) (by k_dflt omega) ?_)
local macro_rules | `(tactic| k_allIn) => `(tactic| with_reducible first
  | assumption
  | (refine PlanAt.same (by assumption) ?_; k_allIn))
local macro_rules | `(tactic| k_places) => `(tactic| with_reducible refine c_needPlan (by k_allIn) ?_)
local macro_rules | `(tactic| k_places) => `(tactic| with_reducible refine c_needBalance (by k_allIn) (by k_dflt omega) (by k_dflt omega) ?_)

local macro_rules | `(tactic| k_places) => `(tactic| with_reducible refine g_ixL (sqL (by k_memK)) (by k_ownIn) ?_)

section
variable {P : Program} {w : World} {K : PySem.W.Frag} {mg : Str → Option Value} {base : Heap}
def spLaw (K : PySem.W.Frag) : Sp := fun vs H Q _ => ∃ (a : Addr) (ns : List Int), vs = [.ref a] ∧ SqL K H a (ns.map V.int) ∧ ns.length ≤ 63 ∧ ∀ H', Q (.bl true) H'
theorem cal0_law (T : TX K mg base) : CalA P w K mg base 7 (He.ga K "law") ["_law_script"] [] (spLaw K) := by
  refine cal_mk (k := 6) (T.d_law) rfl sc_law (fun _ _ _ _ _ _ us hl => match us, hl with | [_], _ => rfl) (fun vs H Q E h => ?_) (fun cdv A outer s H vs Q E hr h => ?_)
  · obtain ⟨_, _, rfl, _⟩ := h; rfl
  · have hu := hu_of hr
    clear hu
    obtain ⟨tT, h_law_tail, kT⟩ := law_tail T cdv A outer s H E hr
    obtain ⟨a, ns, rfl, ha, hlen, k⟩ := h
    refine ⟨_, (pss_cons (ps_set (i := 1) sc_law.nd rfl (Or.inl rfl) (pe_cal (cal__law_begun T) (hr.mono (by decide)) (pa_cons (pv 0) pa_nil)))
      (pss_cons (ps_for PassesOwn.never rfl (pi_range1 rfl T.b_range (pa_cons (pe_op op_add pe_int (pe_callB (call_minI rfl) (by rfl) T.b_min (by decide +kernel) (pa_cons (pe_callB (call_lenK (K := K) rfl) (by rfl) T.b_len (by decide +kernel) (pa_cons (pv 0) pa_nil)) (pa_cons pe_int pa_nil)))) pa_nil)) (pg_name (i := 2) sc_law.nd rfl (Or.inl rfl))
      (pss_cons (ps_set (i := 3) sc_law.nd rfl (Or.inl rfl) (pe_cal (cal__law_parts T) (hr.mono (by decide)) (pa_cons (pv 1) pa_nil)))
      (pss_cons (ps_set (i := 4) sc_law.nd rfl (Or.inr rfl) (pe_cal (cal__law_planned T) (hr.mono (by decide)) (pa_cons (pv 3) pa_nil)))
      (pss_cons (ps_set (i := 5) sc_law.nd rfl (Or.inl rfl) (pe_cal (cal_least_endless T) (hr.mono (by decide)) (pa_cons (pv 4) pa_nil)))
      (pss_one (ps_for PassesOwn.never rfl (pi_range1 rfl T.b_range (pa_cons pe_int pa_nil)) (pg_name (i := 6) sc_law.nd rfl (Or.inl rfl))
      (pss_cons (ps_set (i := 7) sc_law.nd rfl (Or.inl rfl) (pe_callB (cr_sortedK (K := K) rfl) (by rfl) T.b_sorted (by decide +kernel) (pa_cons (pe_lst (pa_cons (pe_cal (cal__law_sum_drawn T) (hr.mono (by decide)) (pa_cons (pv 1) (pa_cons (pv 3) pa_nil))) (pa_cons (pe_cal (cal__law_sum_drawn T) (hr.mono (by decide)) (pa_cons (pv 1) (pa_cons (pv 3) pa_nil))) pa_nil))) pa_nil)))
      (pss_cons (ps_setLc (i := 8) (own := [("_law_left", 12)]) (g := gName 12) (tt := tYes) rfl sc_law.nd rfl rfl (sw_true rfl rfl rfl (by decide +kernel)) (pi_listK (K := K) rfl (pv 7)) (blkOk_by (own := [("_law_left", 12)]) (N := ["_law_script", "_law_state", "_law_turn", "_law_parts_here", "_law_made", "_law_bound", "_law_lap", "_law_pair", "_law_found", "_law_months_here", "_law_most", "_law_is_in", "_law_left"]) (sc := defScope sd_law) (by decide +kernel)) (fun _ _ _ _ _ => (pg_name (i := 12) sc_law.nd rfl (Or.inl rfl))) (fun _ _ _ _ _ => pts_nil) (fun _ _ _ _ _ => (pe_cal (cal_ending T) (hr.mono (by decide)) (pa_cons (pv 4) (pa_cons (pv 12) pa_nil)))))
      h_law_tail))))))))
      (pss_one (ps_ret pe_bl)))), ?_⟩
    try dsimp only [cxOf, Cx.nox]
    refine g_start (σ' := [some _, none, none, none, none, none, none, none, none, none, none, none, none]) rfl ?_
    k_subL
    refine ⟨a, ns, rfl, ha, hlen, fun p l H0 s0 hp0 hl0 S0 => ?_⟩
    k_subL
    refine g_lenL (s0.seq ha) ?_
    k_subL
    rw [List.length_map]
    refine forR1_by (by omega) (fun i σ H' => ∃ v2 v3 v4 v5 v6 v7 v8 v9 v10 v11, σ = [some (.ref a), some (.ref p), v2, v3, v4, v5, v6, v7, v8, v9, v10, v11, none] ∧ StAt H' p l (1000 * i)) ⟨none, none, none, none, none, none, none, none, none, none, rfl, S0.mono (by omega)⟩ ?_ ?_
    · rintro i σ H1 hi ⟨v2, v3, v4, v5, v6, v7, v8, v9, v10, v11, rfl, S1⟩
      k_subL
      refine ⟨p, l, _, rfl, S1, by omega, fun q pl H2 S2 D2 hq2 => ?_⟩
      k_subL
      refine ⟨q, pl, rfl, hq2, fun ad H3 s3 hpl3 => ?_⟩
      have hq3 := hq2.same s3
      have S3 := S2.same s3
      have ok := hpl3.1
      have N := nice ok (Int.le_refl 0)
      k_subL
      refine ⟨ad, pl, rfl, hpl3, fun o hLE => ?_⟩
      k_subL
      refine forR1_by (by omega) (fun j σ H' => ∃ v6 v7 v8 v9 v10 v11, σ = [some (.ref a), some (.ref p), some (.int i), some (.ref q), some (.ref ad), some (optV o), v6, v7, v8, v9, v10, v11, none] ∧ StAt H' p l (1000 * i + 20 + 100 * j) ∧ PartsAt H' q pl ∧ PlanAt K H' ad pl) ⟨v6, v7, v8, v9, v10, v11, rfl, S3.mono (by omega), hq3, hpl3⟩ ?_ ?_
      · clear S3 hq3 hpl3
        rintro j σ H4 hj ⟨v6, v7, v8, v9, v10, v11, rfl, S4, hq4, hpl4⟩
        k_subL
        refine ⟨p, l, _, q, pl, rfl, S4, by omega, hq4, fun z1 H5 z10 z11 S5 D5 => ?_⟩
        k_subL
        refine ⟨p, l, _, q, pl, rfl, S5, by omega, hq4.dr S4 D5, fun z2 H6 z20 z21 S6 D6 => ?_⟩
        have hq6 := (hq4.dr S4 D5).dr S5 D6
        have hpl6 := (hpl4.dr S4 D5).dr S5 D6
        k_subL
        refine newL (by k_offL) fun lp H7 hn7 s7 hlp => ?_
        k_subL
        refine g_sorted (ns := [z1, z2]) (sqL hlp) (Nat.le_of_ble_eq_true rfl) fun ns' pr H8 hperm hsrt hn8 s8 hpr => ?_
        obtain ⟨x, y, rfl, hxy, hxs⟩ := two_sorted hperm hsrt
        have hx0 : 0 ≤ x ∧ x ≤ 20000 := by omega
        have hy0 : 0 ≤ y ∧ y ≤ 20000 := by omega
        have hpl8 := (hpl6.same s7).same s8
        k_subL
        refine lcL_data (sqL hpr) (fun i => if i = 0 then endD pl x else endD pl y) (by show 2 < 10000000; decide) ?_ ?_
        · intro ii v H9 D acc hv s9 hD hD9 kk hk
          have step : ∀ z, 0 ≤ z → z ≤ 20000 → (∀ v' H', Same H9 H' → Dp K (del H' D) v' (endD pl z) → kk v' H') → spEnding K ([.ref ad, .int z] ++ []) H9 kk E0 := by
            intro z h1 h2 hz
            refine ⟨ad, pl, z, rfl, hpl8.same s9, h1, by omega, fun hpos H10 s10 => hz _ _ s10 ?_, fun hend t H10 hn10 s10 ht => hz _ _ s10 ?_⟩
            · unfold endD
              rw [if_neg (by omega)]
              exact .non
            · unfold endD
              rw [if_pos hend]
              have ht2 : del H10 D t = some (.tup [.int ((row (pl.nxt 0) z).length - 1), .int ((row (pl.nxt 0) z).map pl.inter).sum]) := del_get ht (ne_of ht (s10.get hD9) fun z => nomatch z)
              exact .tup (sqT ht2) (.cons (.int _) (.cons (.int _) .nil))
          have hv2 : ([V.int x, V.int y] : List V)[ii]? = some v := hv
          match ii, hv2 with
          | 0, hv2 =>
            obtain rfl := Option.some.inj hv2
            k_subL
            exact step x hx0.1 hx0.2 fun v' H' s' r' => hk v' H' s' r'
          | 1, hv2 =>
            obtain rfl := Option.some.inj hv2
            k_subL
            exact step y hy0.1 hy0.2 fun v' H' s' r' => hk v' H' s' r'
        · intro D ys H9 hD s9 hys hr
          have hr2 : DpAll K (del H9 D) ys [endD pl x, endD pl y] := hr
          obtain ⟨vx, vy, rfl, rx, ry⟩ : ∃ vx vy, ys = [vx, vy] ∧ Dp K H9 vx (endD pl x) ∧ Dp K H9 vy (endD pl y) := by
            cases hr2 with
            | cons r1 hr2 =>
              cases hr2 with
              | cons r2 hr2 =>
                cases hr2
                exact ⟨_, _, rfl, Dp.same del_le r1, Dp.same del_le r2⟩
          have S9 : StAt H9 p l (1000 * i + 20 + 100 * j + 50) := (((S6.same s7).same s8).same s9).mono (by omega)
          refine kT _ _ _ _ a p l p q ad pr D _ _ o _ _ _ pl x y _ vx vy H9 S9 (by omega) (hpl8.same s9) hLE hx0.1 hxy hy0.2 (s9.get hpr) hys ((S6.same s7).new hn8) (((S6.same s7).same s8).new hD) rx ry fun v9' v10' v11' H10 S10 D10 => ?_
          exact ⟨_, _, _, _, _, _, rfl, S10.mono (by omega), ((hq6.same s7).same s8).same s9 |>.dr S9 D10, (hpl8.same s9).dr S9 D10⟩
      · rintro σ H4 ⟨v6, v7, v8, v9, v10, v11, rfl, S4, hq4, hpl4⟩
        exact ⟨_, _, _, _, _, _, _, _, _, _, rfl, S4.mono (by omega)⟩
    · rintro σ H1 ⟨v2, v3, v4, v5, v6, v7, v8, v9, v10, v11, rfl, S1⟩
      k_subL
      exact k H1
theorem cal_law (T : TX K mg base) : Cal P w K mg base 7 "law" ["_law_script"] [] (spLaw K) := (cal0_law T).cal (T.d_law) T.g_law
end
end Pr
namespace Pr
open PySem PySem.Spec PyProof.Rows L2 Wb
theorem facts {P : Program} {w : World} {K : PySem.W.Frag} {h : Heap} {mg : Str → Option Value} {f : Addr} (X : K.In h) (G : h.Ns mainGlobals mg) (hfa : mg ("law" : Str) = some (.ref f)) (c : SaysM fa fn ex K) :
    ∃ fd : FuncData, (∀ (s : Shared) (v : Value), BindsTo s fd ⟨[v], []⟩ [("_law_script", v)]) ∧ ∀ base : Heap, K.In base → base.Ns mainGlobals mg → FnOk P w K mg base CX0 7 f fd ["_law_script"] (spLaw K) := by
  have T0 : TX K mg h := ⟨c, X, G⟩
  obtain ⟨fd, F⟩ := T0.d_law
  have e := hfa.symm.trans T0.g_law
  cases e
  have b := FunD.bindsA (ps := ["_law_script"]) F fun _ _ _ _ _ _ us hl => match us, hl with | [_], _ => rfl
  refine ⟨fd, fun s v => b s [v] rfl, fun base X1 G1 => ?_⟩
  have T1 : TX K mg base := ⟨c, X1, G1⟩
  obtain ⟨fd1, ds, a1, F1, _, _⟩ := (cal0_law (P := P) (w := w) T1).ok
  cases (fdAt_of F).one a1
  exact F1
end Pr
open PySem PySem.W PySem.Calls PyProof.Rows
set_option maxRecDepth 100000 in
set_option maxHeartbeats 8000000 in
theorem PySem.Challenge.cw_wholepaid_k78_whole_least_payments_holds : PySem.Challenge.rw_wholepaid_k78_whole_least_payments.Holds := by
  w_on; o_law
  refine HandSHeadRun.head_any (r := OpenLaw.row PySem.Challenge.rw_wholepaid_k78_whole_least_payments) (q := view (OpenLaw.row PySem.Challenge.rw_wholepaid_k78_whole_least_payments).prog [40]) (H := Pr.hk) (ob := Pr.ob) (M := 6000) (loose := Pr.loose) (d := HandSHeadRun.topDef (OpenLaw.row PySem.Challenge.rw_wholepaid_k78_whole_least_payments).prog 40) (kwd := []) Pr.ob_eq
    (by kernel_rfl) (fun s => by kernel_rfl) Pr.run (by kernel_rfl) (by kernel_rfl) (by kernel_rfl) (by rfl) (by first | assumption | decide +kernel) (by decide +kernel) ⟨rfl, rfl, rfl, rfl, rfl, by decide +kernel⟩ ?hw ?hc
  case hw => w_witness2
  case hc =>
    refine L2.walk_ofE (l := PySem.Challenge.rw_wholepaid_k78_whole_least_payments) (n := 63) (k := 7) (x := "_law_script") (CX := L2.CX0) rfl (by decide) (by kernel_rfl) ⟨rfl, by decide, by decide⟩ ?F (fun _ _ _ _ z => z)
    intro w mg fa h Y G hmg0
    obtain ⟨K, KX, c⟩ := Y
    have hmg : mg ("law" : PySem.Str) = some (.ref fa) := by
      have e : (HandSHeadRun.topDef (OpenLaw.row PySem.Challenge.rw_wholepaid_k78_whole_least_payments).prog 40).name = ("law" : PySem.Str) := by kernel_rfl
      rw [← e]
      exact hmg0
    obtain ⟨fd, hb, hF⟩ := Pr.facts (P := (PySem.Challenge.rw_wholepaid_k78_whole_least_payments).prog) (w := w) KX G hmg c
    exact ⟨K, fd, Pr.spLaw K, KX, hb, fun H a ns hl _ hS => ⟨a, ns, rfl, hS, hl, fun _ => rfl⟩, hF⟩
