import PyProof.Rows.All
import Wide.All
import OpenK.AllK
import Wide.FinOn
import KE.KStateDown
import Lean
import HandS.ForMost
import HandS.ForExc
import HandS.Walk
import HandS.Property
import HandS.IsInst
import HandS.StrMore
import HandS.Flow
import HandS.Head0
import HandS.Head1
import HandS.Head2
import HandS.HeadEnd
import HandS.HeadHook1
import HandS.HeadHook2
import PySem.Challenge.RW_lagbound_k64_useful_states_of_readers
set_option Elab.async false
set_option linter.all false
set_option maxRecDepth 100000
set_option maxHeartbeats 4000000
/-! Lag, part A: what the head tells (defs by name, getters of properties), by one look at the run. -/
namespace Lag
open PySem PySem.Spec PyProof.Rows L2
/-! ### getters of properties -/
/-- where the property m of the class x stands, where its getter -/
def propAd (K : PySem.W.Frag) (x m : Str) : Addr := He.ma K (He.ga K x) m
def getAd (K : PySem.W.Frag) (x m : Str) : Addr := match PySem.W.recIn K (propAd K x m) "property" with
  | some (.ref g :: _) => g
  | _ => 0
def propOk (K : PySem.W.Frag) (x m : Str) : Bool :=
  He.eqO (PySem.W.findIn K (.ref (He.ga K x)) m) (some (some (.ref (propAd K x m)))) && (He.eqO (PySem.W.specialIn K (.ref (propAd K x m)) "__get__") (some (some (.builtin "property.__get__"))) &&
    (decide (PySem.W.takesIn K (.ref (propAd K x m)) = some true) && (match PySem.W.recIn K (propAd K x m) "property" with
      | some (.ref _ :: _) => true
      | _ => false)))
/-- a getter as the text has it -/
structure GetD where
  cls : Str
  prop : Str
  qual : Str
  params : Arguments
  body : List Stmt
  scope : Scope
def getW (K : PySem.W.Frag) (g : Addr) : He.FnW := match K.lookup g with
  | some ⟨_, _, .func fd, _⟩ => some (fd.name, fd.qualname, fd.params, fd.body, fd.scope, fd.globals, fd.closure, fd.builtins)
  | _ => none
def GetD.val (d : GetD) : He.FnW := some (d.prop, d.qual, d.params, .stmts d.body, d.scope, mainGlobals, [], builtinsNs)
def GetD.ok (K : PySem.W.Frag) (d : GetD) : Bool := propOk K d.cls d.prop && (PySem.W.keepIn K (.ref (getAd K d.cls d.prop)) && (match K.lookup (getAd K d.cls d.prop) with
  | some ⟨_, _, .func fd, _⟩ => PySem.W.codeIn K fd.code d.qual && (He.dflB K fd.defaults [] && He.kwdB K fd.kwdefaults [])
  | _ => false))
theorem GetD.funD {K : PySem.W.Frag} {d : GetD} (e : getW K (getAd K d.cls d.prop) = d.val) (c : d.ok K = true) :
    PropOf K (He.ga K d.cls) d.prop (propAd K d.cls d.prop) (getAd K d.cls d.prop) ∧ ∃ fd, FunD K d.prop d.qual d.params d.body d.scope [] [] (getAd K d.cls d.prop) fd := by
  obtain ⟨c1, c2⟩ := He.ba c
  obtain ⟨kp, c3⟩ := He.ba c2
  obtain ⟨p1, p2⟩ := He.ba c1
  obtain ⟨p3, p4⟩ := He.ba p2
  obtain ⟨p5, p6⟩ := He.ba p4
  refine ⟨⟨He.eqO_ok p1, He.eqO_ok p3, of_decide_eq_true p5, ?_⟩, ?_⟩
  · unfold getAd
    cases q : PySem.W.recIn K (propAd K d.cls d.prop) "property" with
    | none => rw [q] at p6; cases p6
    | some l =>
      rw [q] at p6
      cases l with
      | nil => cases p6
      | cons a r =>
        cases a with
        | ref g => exact ⟨r, rfl⟩
        | _ => cases p6
  · unfold getW at e
    cases q : K.lookup (getAd K d.cls d.prop) with
    | none => rw [q] at c3; cases c3
    | some ob =>
      obtain ⟨oc, od, dt, sl⟩ := ob
      rw [q] at c3 e
      cases dt with
      | func fd =>
        obtain ⟨f1, f2, f3, f4, f5, f6, f7, f8, f9, f10, f11, f12, f13, f14, f15⟩ := fd
        have e3 : (some (f1, f2, f3, f4, f5, f6, f7, f15) : He.FnW) = some (d.prop, d.qual, d.params, .stmts d.body, d.scope, mainGlobals, [], builtinsNs) := e
        simp only [Option.some.injEq, Prod.mk.injEq] at e3
        obtain ⟨g1, g2, g3, g4, g5, g6, g7, g8⟩ := e3
        subst g1 g2 g3 g4 g5 g6 g7 g8
        obtain ⟨k1, k2⟩ := He.ba (show (PySem.W.codeIn K f13 d.qual && (He.dflB K f8 [] && He.kwdB K f9 [])) = true from c3)
        obtain ⟨k3, k4⟩ := He.ba k2
        exact ⟨_, ⟨oc, od, f8, f9, f10, f11, f12, f13, f14, sl, rfl, q, k1, He.dflB_ok k3, He.kwdB_ok k4⟩, kp⟩
      | _ => cases c3
/-! ### the look -/
abbrev AlG : Type := He.AlD × (Bool × List He.FnW)
def obsP (fa : List He.Fa) (fn : List He.DefD) (gs : List GetD) (K : PySem.W.Frag) : AlG := (He.obsD fa fn K, (gs.all fun d => d.ok K, gs.map fun d => getW K (getAd K d.cls d.prop)))
def valP (fn : List He.DefD) (gs : List GetD) : AlG := (He.valD fn, (true, gs.map GetD.val))
def SaysP (fa : List He.Fa) (fn : List He.DefD) (gs : List GetD) (K : PySem.W.Frag) : Prop := obsP fa fn gs K = valP fn gs
def obsPG (n : Nat) (fa : List He.Fa) (fn : List He.DefD) (gs : List GetD) (g : Addr → Option Obj) : AlG := obsP fa fn gs (He.frG g (He.asD g n))
def hookP (n : Nat) (fa : List He.Fa) (fn : List He.DefD) (gs : List GetD) : PySem.W.Hook where
  α := AlG
  obs := fun s => obsPG n fa fn gs s.heap.get?
  val := fun _ => valP fn gs
  says := fun _ h => ∃ K : PySem.W.Frag, K.In h ∧ SaysP fa fn gs K
  of := fun _ _ e => ⟨_, He.frG_in, e⟩
  keeps := fun _ _ _ ⟨K, hK, c⟩ k => ⟨K, PySem.W.Frag.In.keeps hK k, c⟩
theorem obsPG_eq {n : Nat} {fa : List He.Fa} {fn : List He.DefD} {gs : List GetD} {g : Addr → Option Obj} {s : Shared} (h : ∀ a, g a = s.heap.get? a) : obsPG n fa fn gs g = (hookP n fa fn gs).obs s := by
  rw [show g = s.heap.get? from funext h] <;> rfl
section
variable {fa : List He.Fa} {fn : List He.DefD} {gs : List GetD} {K : PySem.W.Frag}
theorem SaysP.d (c : SaysP fa fn gs K) : He.SaysD fa fn K := congrArg Prod.fst c
theorem SaysP.get (c : SaysP fa fn gs K) (i : Nat) {d : GetD} (h : gs[i]? = some d := by rfl) :
    PropOf K (He.ga K d.cls) d.prop (propAd K d.cls d.prop) (getAd K d.cls d.prop) ∧ ∃ fd, FunD K d.prop d.qual d.params d.body d.scope [] [] (getAd K d.cls d.prop) fd := by
  have c1 : (gs.all fun d => d.ok K) = true := congrArg (fun z : AlG => z.2.1) c
  have c2 : gs.map (fun d => getW K (getAd K d.cls d.prop)) = gs.map GetD.val := congrArg (fun z : AlG => z.2.2) c
  have c3 : (gs.map fun d => getW K (getAd K d.cls d.prop))[i]? = (gs.map GetD.val)[i]? := by rw [c2]
  rw [List.getElem?_map, List.getElem?_map, h] at c3
  exact GetD.funD (Option.some.inj c3) (List.all_eq_true.mp c1 d (List.mem_of_getElem? h))
end
/-! ### a def, ready to be called -/
section
variable {P : Program} {w : World} {K : PySem.W.Frag} {mg : Str → Option Value} {base : Heap}
/-- the def of that name keeps the promise and may be called -/
structure Cal (P : Program) (w : World) (K : PySem.W.Frag) (mg : Str → Option Value) (base : Heap) (k : Nat) (x : Str) (sp : Sp) : Prop where
  ex : ∃ (f : Addr) (fd : FuncData) (ps : List Str), FnOk P w K mg base CX0 k f fd ps sp ∧ mg x = some (.ref f) ∧ PySem.W.keepIn K (.ref f) = true ∧ Binds K fd ps []
/-- the class of that name may be made; its __init__ keeps the promise -/
structure Mak (P : Program) (w : World) (K : PySem.W.Frag) (mg : Str → Option Value) (base : Heap) (k : Nat) (x : Str) (C : Addr) (sp : Sp) : Prop where
  ex : ∃ (f : Addr) (fd : FuncData) (ps : List Str), Mk K C f ∧ FnOk P w K mg base CX0 k f fd ps sp ∧ mg x = some (.ref C) ∧ Binds K fd ps []
/-- a def's promise from its body; no exception leaves it -/
theorem cal_of {x qual : Str} {params : Arguments} {body : List Stmt} {scope : Scope} {f : Addr} {N ps : List Str} {k : Nat} {sp : Sp} (D : ∃ fd, FunD K x qual params body scope [] [] f fd) (hm : mg x = some (.ref f))
    (hb : ∀ fd, FunD K x qual params body scope [] [] f fd → Binds K fd ps []) (S : FnScope N ps scope) (len : ∀ vs H Q E, sp vs H Q E → vs.length = ps.length)
    (hbody : ∀ (cdv : Value) (A : Around) (outer : List Env) (s : Shared) (H : Hp) (vs : List V) (Q : VK) (E : XK), Room k (A.deeper (envOfC qual scope s.heap.objs.size f cdv)) → sp vs H Q E →
      ∃ t, PSs (cxOf CX0 P w K mg base N qual scope f cdv A outer s H E).nox body t ∧ t { nx := fun _ H' => Q .non H', rt := Q } (start N vs) H) : Cal P w K mg base (k + 1) x sp := by
  obtain ⟨fd, F⟩ := D
  exact ⟨f, fd, ps, F.ok S len fun cdv A outer s H vs Q E hr h => by
    obtain ⟨t, h1, h2⟩ := hbody cdv A outer s H vs Q E hr h
    exact ⟨t, h1.nox, h2⟩, hm, F.kp, hb fd F⟩
/-- a class's making, from its __init__ -/
theorem mak_of {x xi qual : Str} {C : Addr} {params : Arguments} {body : List Stmt} {scope : Scope} {f : Addr} {N ps : List Str} {k : Nat} {sp : Sp} (M : Mk K C f) (D : ∃ fd, FunD K xi qual params body scope [] [] f fd) (hm : mg x = some (.ref C))
    (hb : ∀ fd, FunD K xi qual params body scope [] [] f fd → Binds K fd ps []) (S : FnScope N ps scope) (len : ∀ vs H Q E, sp vs H Q E → vs.length = ps.length)
    (hbody : ∀ (cdv : Value) (A : Around) (outer : List Env) (s : Shared) (H : Hp) (vs : List V) (Q : VK) (E : XK), Room k (A.deeper (envOfC qual scope s.heap.objs.size f cdv)) → sp vs H Q E →
      ∃ t, PSs (cxOf CX0 P w K mg base N qual scope f cdv A outer s H E).nox body t ∧ t { nx := fun _ H' => Q .non H', rt := Q } (start N vs) H) : Mak P w K mg base (k + 1) x C sp := by
  obtain ⟨fd, F⟩ := D
  exact ⟨f, fd, ps, M, F.ok S len fun cdv A outer s H vs Q E hr h => by
    obtain ⟨t, h1, h2⟩ := hbody cdv A outer s H vs Q E hr h
    exact ⟨t, h1.nox, h2⟩, hm, hb fd F⟩
/-- a property that may be read -/
structure Prp (P : Program) (w : World) (K : PySem.W.Frag) (mg : Str → Option Value) (base : Heap) (k : Nat) (C : Addr) (m : Str) (sp : Sp) : Prop where
  ex : ∃ (p g : Addr) (fd : FuncData) (ps : List Str), Cls K C ∧ PropOf K C m p g ∧ FnOk P w K mg base CX0 k g fd ps sp ∧ Binds K fd ps []
theorem prp_of {m qual : Str} {C p : Addr} {params : Arguments} {body : List Stmt} {scope : Scope} {f : Addr} {N ps : List Str} {k : Nat} {sp : Sp} (cl : Cls K C) (D : PropOf K C m p f ∧ ∃ fd, FunD K m qual params body scope [] [] f fd)
    (hb : ∀ fd, FunD K m qual params body scope [] [] f fd → Binds K fd ps []) (S : FnScope N ps scope) (len : ∀ vs H Q E, sp vs H Q E → vs.length = ps.length)
    (hbody : ∀ (cdv : Value) (A : Around) (outer : List Env) (s : Shared) (H : Hp) (vs : List V) (Q : VK) (E : XK), Room k (A.deeper (envOfC qual scope s.heap.objs.size f cdv)) → sp vs H Q E →
      ∃ t, PSs (cxOf CX0 P w K mg base N qual scope f cdv A outer s H E).nox body t ∧ t { nx := fun _ H' => Q .non H', rt := Q } (start N vs) H) : Prp P w K mg base (k + 1) C m sp := by
  obtain ⟨hp, fd, F⟩ := D
  exact ⟨p, f, fd, ps, cl, hp, F.ok S len fun cdv A outer s H vs Q E hr h => by
    obtain ⟨t, h1, h2⟩ := hbody cdv A outer s H vs Q E hr h
    exact ⟨t, h1.nox, h2⟩, hb fd F⟩
end
section
variable {X : Cx} {k j : Nat} {C : Addr} {m : Str} {sp : Sp} {pos : Pos} {e : Expr} {ta : TE}
theorem pe_pr (c : Prp X.prog X.w X.K X.mg X.base k C m sp) (hr : Room j X.A) (hk : k + 1 ≤ j) (he : PE X e ta) (hab : attributeBase e m X.env (eval e X.env) = eval e X.env := by rfl) : PE X (.Attribute e m pos) (tProp C sp [] E0 ta) := by
  obtain ⟨p, g, fd, ps, cl, hp, F, b⟩ := c.ex
  exact pe_prop he cl hp F (hr.mono hk) b .nil pass0 hab
theorem pe_cl {x : Str} {p : Pos} {es : List Expr} {t : TA} (c : Cal X.prog X.w X.K X.mg X.base k x sp) (hr : Room j X.A) (hk : k ≤ j) (hg : Gl X x) (ha : PA X (e :: es) t) (hdb : (x == ("__debug__" : Str)) = false := by decide)
    (he : starEach (e :: es) X.env = (false, eval e X.env) :: starEach es X.env := by rfl) (hpl : (backTo pos (starEach es X.env)).any (·.1) = false := by rfl) : PE X (.Call (.Name x p) (e :: es) [] pos) (tCall sp [] E0 t) := by
  obtain ⟨f, fd, ps, F, hm, kp, b⟩ := c.ex
  exact pe_call F (hr.mono hk) hg hm kp b .nil pass0 ha hdb he hpl
theorem pe_mkc {x : Str} {p : Pos} {es : List Expr} {t : TA} (c : Mak X.prog X.w X.K X.mg X.base k x C sp) (hr : Room j X.A) (hk : k + 1 ≤ j) (hg : Gl X x) (ha : PA X (e :: es) t) (hdb : (x == ("__debug__" : Str)) = false := by decide)
    (he : starEach (e :: es) X.env = (false, eval e X.env) :: starEach es X.env := by rfl) (hpl : (backTo pos (starEach es X.env)).any (·.1) = false := by rfl) : PE X (.Call (.Name x p) (e :: es) [] pos) (tMake C sp [] E0 t) := by
  obtain ⟨f, fd, ps, M, F, hm, b⟩ := c.ex
  exact pe_make M F (hr.mono hk) hg hm b .nil pass0 ha hdb he hpl
/-! ### constants of the module -/
theorem pe_gi {x : Str} {i : Int} (hg : Gl X x) (hm : ∃ t, X.mg x = some (.int i t)) (hd : (x == ("__debug__" : Str)) = false := by decide) : PE X (.Name x pos) (tC (.int i)) := by
  obtain ⟨t, ht⟩ := hm
  exact pe_glob hg ht ⟨t, rfl⟩ hd
theorem pe_gs {x z : Str} (hg : Gl X x) (hm : ∃ t, X.mg x = some (.str z t)) (hd : (x == ("__debug__" : Str)) = false := by decide) : PE X (.Name x pos) (tC (.str z)) := by
  obtain ⟨t, ht⟩ := hm
  exact pe_glob hg ht ⟨t, rfl⟩ hd
end
end Lag

/-! Lag, part B: the heap in three parts (G: what stays, M: own lists that change, the store of the draws), data D and what stands for it. -/
namespace Lag
open PySem PySem.Spec PyProof.Rows L2
/-! ### tests whose answer is known -/
theorem ifT {c : Bool} {A B : Prop} (hc : c = true) (h : A) : if c = true then A else B := by
  rw [if_pos hc]
  exact h
theorem ifF {c : Bool} {A B : Prop} (hc : c = false) (h : B) : if c = true then A else B := by
  rw [hc, if_neg Bool.false_ne_true]
  exact h
theorem ifD {c : Bool} {A B : Prop} (h1 : c = true → A) (h2 : c = false → B) : if c = true then A else B := by
  cases c with
  | true => exact ifT rfl (h1 rfl)
  | false => exact ifF rfl (h2 rfl)
theorem dT {p : Prop} [Decidable p] (h : p) : decide p = true := decide_eq_true h
theorem dF {p : Prop} [Decidable p] (h : ¬ p) : decide p = false := decide_eq_false h
theorem dOf {p : Prop} [Decidable p] (h : decide p = true) : p := of_decide_eq_true h
theorem dNot {p : Prop} [Decidable p] (h : decide p = false) : ¬ p := of_decide_eq_false h
theorem notT {b : Bool} (h : b = false) : (!b) = true := by rw [h] <;> rfl
theorem notF {b : Bool} (h : b = true) : (!b) = false := by rw [h] <;> rfl
/-! ### heaps -/
def nil : Hp := fun _ => none
def era (M : Hp) (l : Addr) : Hp := fun a => if a = l then none else M a
theorem era_ne {M : Hp} {l a : Addr} {o : HO} (h : era M l a = some o) : a ≠ l ∧ M a = some o := by
  unfold era at h
  by_cases e : a = l
  · rw [if_pos e] at h; cases h
  · rw [if_neg e] at h; exact ⟨e, h⟩
theorem era_of {M : Hp} {l a : Addr} {o : HO} (h : M a = some o) (n : a ≠ l) : era M l a = some o := by
  unfold era
  rw [if_neg n]
  exact h
/-- what the draws change: nothing, or the store at s, whose cells stand at c -/
inductive Sr where
  | no
  | at_ (s c : Addr) (ns : List Int)
def Sr.is (S : Sr) (a : Addr) : Prop := match S with
  | .no => False
  | .at_ s _ _ => a = s
def But (S : Sr) (H H' : Hp) : Prop := ∀ a o, H a = some o → ¬ S.is a → H' a = some o
def Sto (G H : Hp) : Sr → Prop
  | .no => True
  | .at_ s c ns => G s = none ∧ G c = some (.lst (ns.map V.int)) ∧ ns.length ≤ 63 ∧ ∃ i b t e : Int, 0 ≤ i ∧ H s = some (.lst [.ref c, .int i, .int b, .int t, .int e])
structure Wd (S : Sr) (G H : Hp) : Prop where
  sub : Same G H
  sto : Sto G H S
structure Aft (S : Sr) (G H H' : Hp) : Prop where
  but : But S H H'
  wd : Wd S G H'
/-- G with what is new in H' since H -/
def grow (G H H' : Hp) : Hp := fun a => match G a with
  | some o => some o
  | none => match H a with
    | some _ => none
    | none => H' a
theorem grow_old {G H H' : Hp} {a : Addr} {o : HO} (h : G a = some o) : grow G H H' a = some o := by
  unfold grow
  rw [h]
theorem grow_not {G H H' : Hp} {a : Addr} {o : HO} (h : G a = none) (h2 : H a = some o) : grow G H H' a = none := by
  unfold grow
  rw [h, h2]
theorem grow_new {G H H' : Hp} {a : Addr} (h : G a = none) (h2 : H a = none) : grow G H H' a = H' a := by
  unfold grow
  rw [h, h2]
theorem grow_same {G H H' : Hp} : Same G (grow G H H') := fun _ _ h => grow_old h
theorem grow_sub {G H H' : Hp} (h : Same G H') : Same (grow G H H') H' := fun a o e => by
  cases g : G a with
  | some u =>
    rw [grow_old g] at e
    cases e
    exact h a _ g
  | none =>
    cases hh : H a with
    | some u => rw [grow_not g hh] at e; cases e
    | none => rw [grow_new g hh] at e; exact e
/-- where a def's body stands: it began at G0, H0; G is what stays now, M the own lists that change -/
structure Hs (S : Sr) (G0 H0 G M H : Hp) : Prop where
  wd : Wd S G H
  g0 : Same G0 G
  fr : ∀ a o, H0 a = some o → G0 a = none → G a = none
  but : But S H0 H
  keep : ∀ a o, H0 a = some o → ∃ o', H a = some o'
  s0 : ∀ a, S.is a → ∃ o, H0 a = some o
  m : ∀ a o, M a = some o → H a = some o ∧ G a = none ∧ H0 a = none
section
variable {S : Sr} {G0 H0 G M H H' : Hp} {p l : Addr} {o o' : HO}
theorem Wd.s (h : Wd S G H) {a : Addr} (e : S.is a) : G a = none ∧ ∃ o, H a = some o := by
  cases S with
  | no => exact e.elim
  | at_ s c ns =>
    cases (show a = s from e)
    obtain ⟨h1, _, _, i, b, t, e, _, h2⟩ := h.sto
    exact ⟨h1, _, h2⟩
theorem Hs.start (h : Wd S G H) : Hs S G H G nil H :=
  ⟨h, fun _ _ e => e, fun _ _ _ e => e, fun _ _ e _ => e, fun _ o e => ⟨o, e⟩, fun _ e => (h.s e).2, fun _ _ e => by cases e⟩
theorem Hs.g (h : Hs S G0 H0 G M H) {a : Addr} {u : HO} (e : G a = some u) : H a = some u := h.wd.sub a u e
theorem Hs.mm (h : Hs S G0 H0 G M H) {a : Addr} {u : HO} (e : M a = some u) : H a = some u := (h.m a u e).1
theorem Hs.nS (h : Hs S G0 H0 G M H) {a : Addr} {u : HO} (e : M a = some u) : ¬ S.is a := fun q => by
  obtain ⟨_, z⟩ := h.s0 a q
  rw [(h.m a u e).2.2] at z
  cases z
theorem Hs.fG (h : Hs S G0 H0 G M H) (e : H p = none) : G p = none := h.wd.sub.free e
theorem Hs.f0 (h : Hs S G0 H0 G M H) (e : H p = none) : H0 p = none := by
  cases q : H0 p with
  | none => rfl
  | some u =>
    obtain ⟨_, z⟩ := h.keep p u q
    rw [e] at z
    cases z
theorem Hs.fM (h : Hs S G0 H0 G M H) (e : H p = none) : M p = none := by
  cases q : M p with
  | none => rfl
  | some u => rw [(h.m p u q).1] at e; cases e
theorem Hs.fS (h : Hs S G0 H0 G M H) (e : H p = none) : ¬ S.is p := fun q => by
  obtain ⟨_, _, z⟩ := h.wd.s q
  rw [e] at z
  cases z
theorem Sto.up {S : Sr} (h : Sto G H S) {G' H' : Hp} (g : Same G G') (gs : ∀ a, S.is a → G' a = none) (hs : ∀ a o, S.is a → H a = some o → H' a = some o) : Sto G' H' S := by
  cases S with
  | no => trivial
  | at_ s c ns =>
    obtain ⟨_, h2, h3, i, b, t, e, h4, h5⟩ := h
    exact ⟨gs s rfl, g _ _ h2, h3, i, b, t, e, h4, hs s _ rfl h5⟩
/-- behind a call -/
theorem Hs.call (h : Hs S G0 H0 G M H) (a : Aft S G H H') : Hs S G0 H0 (grow G H H') M H' where
  wd := ⟨grow_sub a.wd.sub, a.wd.sto.up grow_same (fun b e => by
    obtain ⟨h1, _, h2⟩ := h.wd.s e
    exact grow_not h1 h2) fun _ _ _ e => e⟩
  g0 := h.g0.trans grow_same
  fr := fun b u e1 e2 => by
    obtain ⟨_, z⟩ := h.keep b u e1
    exact grow_not (h.fr b u e1 e2) z
  but := fun b u e n => a.but b u (h.but b u e n) n
  keep := fun b u e => by
    obtain ⟨u1, z⟩ := h.keep b u e
    by_cases q : S.is b
    · exact (a.wd.s q).2
    · exact ⟨u1, a.but b u1 z q⟩
  s0 := h.s0
  m := fun b u e => by
    obtain ⟨h1, h2, h3⟩ := h.m b u e
    exact ⟨a.but b u h1 (h.nS e), grow_not h2 h1, h3⟩
theorem Wd.same (h : Wd S G H) (s : Same H H') : Aft S G H H' :=
  ⟨fun a o e _ => s a o e, h.sub.trans s, h.sto.up (fun _ _ e => e) (fun a e => (h.s e).1) fun a o _ e => s a o e⟩
/-- something may be new, nothing has changed -/
theorem Hs.same (h : Hs S G0 H0 G M H) (s : Same H H') : Hs S G0 H0 G M H' where
  wd := (h.wd.same s).wd
  g0 := h.g0
  fr := h.fr
  but := fun b u e n => s b u (h.but b u e n)
  keep := fun b u e => let ⟨u1, z⟩ := h.keep b u e; ⟨u1, s b u1 z⟩
  s0 := h.s0
  m := fun b u e => let ⟨h1, h2, h3⟩ := h.m b u e; ⟨s b u h1, h2, h3⟩
theorem same_new (e : H p = none) : Same H (upd H p o) := fun a u z => by
  rw [upd_ne (ne_of_none z e)]
  exact z
/-- a new thing that is not kept in mind -/
theorem Hs.drop (h : Hs S G0 H0 G M H) (e : H p = none) : Hs S G0 H0 G M (upd H p o) := h.same (same_new e)
/-- a new thing that stays -/
theorem Hs.newG (h : Hs S G0 H0 G M H) (e : H p = none) : Hs S G0 H0 (upd G p o) M (upd H p o) where
  wd := ⟨fun a u z => by
    by_cases q : a = p
    · rw [q, upd_same] at z ⊢; exact z
    · rw [upd_ne q] at z ⊢; exact h.g z, h.wd.sto.up (same_new (h.fG e)) (fun a q => by
      rw [upd_ne (fun z : a = p => h.fS e (z ▸ q))]
      exact (h.wd.s q).1) fun a u _ z => same_new e a u z⟩
  g0 := h.g0.trans (same_new (h.fG e))
  fr := fun b u e1 e2 => by
    obtain ⟨_, z⟩ := h.keep b u e1
    rw [upd_ne (ne_of_none z e)]
    exact h.fr b u e1 e2
  but := fun b u e1 n => same_new e b u (h.but b u e1 n)
  keep := fun b u e1 => let ⟨u1, z⟩ := h.keep b u e1; ⟨u1, same_new e b u1 z⟩
  s0 := h.s0
  m := fun b u e1 => by
    obtain ⟨h1, h2, h3⟩ := h.m b u e1
    rw [upd_ne (ne_of_none h1 e), upd_ne (ne_of_none h1 e)]
    exact ⟨h1, h2, h3⟩
/-- a new thing that will change -/
theorem Hs.newM (h : Hs S G0 H0 G M H) (e : H p = none) : Hs S G0 H0 G (upd M p o) (upd H p o) where
  wd := (h.wd.same (same_new e)).wd
  g0 := h.g0
  fr := h.fr
  but := fun b u e1 n => same_new e b u (h.but b u e1 n)
  keep := fun b u e1 => let ⟨u1, z⟩ := h.keep b u e1; ⟨u1, same_new e b u1 z⟩
  s0 := h.s0
  m := fun b u e1 => by
    by_cases q : b = p
    · rw [q, upd_same] at e1
      rw [q, upd_same]
      exact ⟨e1, h.fG e, h.f0 e⟩
    · rw [upd_ne q] at e1 ⊢
      exact h.m b u e1
/-- an own thing changes -/
theorem Hs.set (h : Hs S G0 H0 G M H) (e : M l = some o) : Hs S G0 H0 G (upd M l o') (upd H l o') where
  wd := ⟨fun a u z => by
      rw [upd_ne (ne_of_none z (h.m l o e).2.1)]
      exact h.g z, h.wd.sto.up (fun _ _ z => z) (fun a q => (h.wd.s q).1) fun a u q z => by
      rw [upd_ne (fun y : a = l => h.nS e (y ▸ q))]
      exact z⟩
  g0 := h.g0
  fr := h.fr
  but := fun b u e1 n => by
    rw [upd_ne (ne_of_none e1 (h.m l o e).2.2)]
    exact h.but b u e1 n
  keep := fun b u e1 => by
    rw [upd_ne (ne_of_none e1 (h.m l o e).2.2)]
    exact h.keep b u e1
  s0 := h.s0
  m := fun b u e1 => by
    by_cases q : b = l
    · rw [q, upd_same] at e1
      rw [q, upd_same]
      exact ⟨e1, (h.m l o e).2⟩
    · rw [upd_ne q] at e1 ⊢
      exact h.m b u e1
/-- an own thing will change no more -/
theorem Hs.frz (h : Hs S G0 H0 G M H) (e : M l = some o) : Hs S G0 H0 (upd G l o) (era M l) H where
  wd := ⟨fun a u z => by
    by_cases q : a = l
    · rw [q, upd_same] at z
      cases z
      rw [q]
      exact h.mm e
    · rw [upd_ne q] at z
      exact h.g z, h.wd.sto.up (same_new (h.m l o e).2.1) (fun a q => by
      rw [upd_ne (fun y : a = l => h.nS e (y ▸ q))]
      exact (h.wd.s q).1) fun _ _ _ z => z⟩
  g0 := h.g0.trans (same_new (h.m l o e).2.1)
  fr := fun b u e1 e2 => by
    rw [upd_ne (ne_of_none e1 (h.m l o e).2.2)]
    exact h.fr b u e1 e2
  but := h.but
  keep := h.keep
  s0 := h.s0
  m := fun b u e1 => by
    obtain ⟨n, e2⟩ := era_ne e1
    rw [upd_ne n]
    exact h.m b u e2
/-- own things are forgotten -/
theorem Hs.less (h : Hs S G0 H0 G M H) {M' : Hp} (k : ∀ a o, M' a = some o → M a = some o) : Hs S G0 H0 G M' H :=
  ⟨h.wd, h.g0, h.fr, h.but, h.keep, h.s0, fun a o e => h.m a o (k a o e)⟩
/-- behind a call that has made p, which will change -/
theorem Hs.callM (h : Hs S G0 H0 G M H) (a : Aft S G H H') (e : H p = none) (e' : H' p = some o) : Hs S G0 H0 (era (grow G H H') p) (upd M p o) H' where
  wd := ⟨fun b u z => grow_sub a.wd.sub b u (era_ne z).2, a.wd.sto.up (fun b u z => era_of (grow_old z) (ne_of_none z (h.fG e))) (fun b q => by
    obtain ⟨h1, _, h2⟩ := h.wd.s q
    unfold era
    by_cases y : b = p
    · rw [if_pos y]
    · rw [if_neg y]
      exact grow_not h1 h2) fun _ _ _ z => z⟩
  g0 := fun b u z => era_of (grow_old (h.g0 b u z)) (ne_of_none (h.g0 b u z) (h.fG e))
  fr := fun b u e1 e2 => by
    have z := (h.call a).fr b u e1 e2
    unfold era
    by_cases y : b = p
    · rw [if_pos y]
    · rw [if_neg y]
      exact z
  but := (h.call a).but
  keep := (h.call a).keep
  s0 := h.s0
  m := fun b u e1 => by
    by_cases q : b = p
    · rw [q, upd_same] at e1
      cases e1
      rw [q]
      refine ⟨e', ?_, h.f0 e⟩
      unfold era
      rw [if_pos rfl]
    · rw [upd_ne q] at e1
      obtain ⟨h1, h2, h3⟩ := (h.call a).m b u e1
      refine ⟨h1, ?_, h3⟩
      unfold era
      rw [if_neg q]
      exact h2
/-- the end: what a caller is told -/
theorem Hs.aft (h : Hs S G0 H0 G M H) (h0 : Wd S G0 H0) : Aft S G0 H0 H :=
  ⟨h.but, h.g0.trans h.wd.sub, by
    cases S with
    | no => trivial
    | at_ s c ns =>
      obtain ⟨a1, a2, a3, _⟩ := h0.sto
      obtain ⟨_, _, _, i, b, t, e, b4, b5⟩ := h.wd.sto
      exact ⟨a1, a2, a3, i, b, t, e, b4, b5⟩⟩
theorem Hs.out (h : Hs S G0 H0 G M H) : Same G (grow G0 H0 H) := fun a u e => by
  cases g : G0 a with
  | some v =>
    rw [grow_old g]
    have z := h.g0 a v g
    rw [e] at z
    exact z.symm
  | none =>
    cases q : H0 a with
    | some v => rw [h.fr a v q g] at e; cases e
    | none =>
      rw [grow_new g q]
      exact h.g e
end
/-! ### data -/
inductive D where
  | non
  | bl (b : Bool)
  | int (i : Int)
  | str (x : Str)
  | lst (ds : List D)
  | tup (ds : List D)
mutual
inductive Rep (G : Hp) : V → D → Prop
  | non : Rep G .non .non
  | bl (b : Bool) : Rep G (.bl b) (.bl b)
  | int (i : Int) : Rep G (.int i) (.int i)
  | str (x : Str) : Rep G (.str x) (.str x)
  | lst {a : Addr} {vs : List V} {ds : List D} (h : G a = some (.lst vs)) (r : Reps G vs ds) : Rep G (.ref a) (.lst ds)
  | tup {a : Addr} {vs : List V} {ds : List D} (h : G a = some (.tup vs)) (r : Reps G vs ds) : Rep G (.ref a) (.tup ds)
inductive Reps (G : Hp) : List V → List D → Prop
  | nil : Reps G [] []
  | cons {v : V} {d : D} {vs : List V} {ds : List D} (h : Rep G v d) (r : Reps G vs ds) : Reps G (v :: vs) (d :: ds)
end
mutual
theorem Rep.mono {G G' : Hp} (s : Same G G') : ∀ {v : V} {d : D}, Rep G v d → Rep G' v d
  | _, _, .non => .non
  | _, _, .bl b => .bl b
  | _, _, .int i => .int i
  | _, _, .str x => .str x
  | _, _, .lst h r => .lst (s _ _ h) (r.mono s)
  | _, _, .tup h r => .tup (s _ _ h) (r.mono s)
theorem Reps.mono {G G' : Hp} (s : Same G G') : ∀ {vs : List V} {ds : List D}, Reps G vs ds → Reps G' vs ds
  | _, _, .nil => .nil
  | _, _, .cons h r => .cons (h.mono s) (r.mono s)
end
section
variable {G : Hp}
theorem Reps.length : ∀ {vs : List V} {ds : List D}, Reps G vs ds → vs.length = ds.length
  | _, _, .nil => rfl
  | _, _, .cons _ r => congrArg Nat.succ r.length
theorem Reps.at_ : ∀ {vs : List V} {ds : List D} {i : Nat} {v : V}, Reps G vs ds → vs[i]? = some v → ∃ d, ds[i]? = some d ∧ Rep G v d
  | _, _, _, _, .nil, e => by simp at e
  | _, _, 0, _, .cons h _, e => by simp at e; subst e; exact ⟨_, rfl, h⟩
  | _, _, i + 1, _, .cons _ r, e => by
    obtain ⟨d, e1, e2⟩ := Reps.at_ (i := i) r (by simpa using e)
    exact ⟨d, by simpa using e1, e2⟩
theorem Reps.of_ : ∀ {vs : List V} {ds : List D} {i : Nat} {d : D}, Reps G vs ds → ds[i]? = some d → ∃ v, vs[i]? = some v ∧ Rep G v d
  | _, _, _, _, .nil, e => by simp at e
  | _, _, 0, _, .cons h _, e => by simp at e; subst e; exact ⟨_, rfl, h⟩
  | _, _, i + 1, _, .cons _ r, e => by
    obtain ⟨v, e1, e2⟩ := Reps.of_ (i := i) r (by simpa using e)
    exact ⟨v, by simpa using e1, e2⟩
theorem Reps.append : ∀ {vs ws : List V} {ds es : List D}, Reps G vs ds → Reps G ws es → Reps G (vs ++ ws) (ds ++ es)
  | _, _, _, _, .nil, s => s
  | _, _, _, _, .cons h r, s => .cons h (r.append s)
theorem Reps.one {v : V} {d : D} (h : Rep G v d) : Reps G [v] [d] := .cons h .nil
theorem Reps.snoc {vs : List V} {ds : List D} {v : V} {d : D} (r : Reps G vs ds) (h : Rep G v d) : Reps G (vs ++ [v]) (ds ++ [d]) := r.append (.one h)
theorem Reps.set {v : V} {d : D} (h : Rep G v d) : ∀ {vs : List V} {ds : List D} (i : Nat), Reps G vs ds → Reps G (vs.set i v) (ds.set i d)
  | _, _, _, .nil => .nil
  | _, _, 0, .cons _ r => .cons h r
  | _, _, i + 1, .cons q r => .cons q (Reps.set h i r)
theorem Reps.mapAt {α : Type} {f : α → D} {vs : List V} {xs : List α} {i : Nat} {v : V} (r : Reps G vs (xs.map f)) (e : vs[i]? = some v) : ∃ x, xs[i]? = some x ∧ Rep G v (f x) := by
  obtain ⟨d, e1, e2⟩ := r.at_ e
  rw [List.getElem?_map] at e1
  cases q : xs[i]? with
  | none => rw [q] at e1; cases e1
  | some x =>
    rw [q] at e1
    cases e1
    exact ⟨x, rfl, e2⟩
theorem Reps.mapOf {α : Type} {f : α → D} {vs : List V} {xs : List α} {i : Nat} {x : α} (r : Reps G vs (xs.map f)) (e : xs[i]? = some x) : ∃ v, vs[i]? = some v ∧ Rep G v (f x) := r.of_ (by rw [List.getElem?_map, e]; rfl)
theorem Reps.ints : ∀ ns : List Int, Reps G (ns.map V.int) (ns.map D.int)
  | [] => .nil
  | n :: ns => .cons (.int n) (Reps.ints ns)
theorem Reps.bls : ∀ ns : List Bool, Reps G (ns.map V.bl) (ns.map D.bl)
  | [] => .nil
  | n :: ns => .cons (.bl n) (Reps.bls ns)
end
/-! ### the types of data -/
def D.ty : D → String
  | .non => "NoneType"
  | .bl _ => "bool"
  | .int _ => "int"
  | .str _ => "str"
  | .lst _ => "list"
  | .tup _ => "tuple"
theorem Rep.tyx {K : PySem.W.Frag} {G H : Hp} (s : Same G H) {v : V} {d : D} (r : Rep G v d) : TyX K H v (.type d.ty) := by
  cases r with
  | non => exact .base .non
  | bl b => exact .base (.bl b)
  | int i => exact .base (.int i)
  | str x => exact .base (.str x)
  | lst h _ => exact .base (.lst (s _ _ h))
  | tup h _ => exact .base (.tup (s _ _ h))
def isi (a b : String) : Bool := a == b || (a == "bool" && b == "int")
theorem kit_of2 {K : PySem.W.Frag} (d : D) {b : String} (hb : b ∈ ["bool", "int", "str", "list", "tuple"]) : PySem.W.kitOne K (.type d.ty) (.type b) = some (isi d.ty b) := by
  have all : ∀ a ∈ ["NoneType", "bool", "int", "str", "list", "tuple"], ∀ b ∈ ["bool", "int", "str", "list", "tuple"], kitB a b = some (isi a b) := by decide +kernel
  refine kit_ty (all _ ?_ _ hb)
  cases d <;> simp [D.ty]
/-- isinstance(x, T) of data -/
theorem isi_rep {K : PySem.W.Frag} {G H : Hp} (s : Same G H) {v : V} {d : D} (r : Rep G v d) {b : String} {Q : VK} (hb : b ∈ ["bool", "int", "str", "list", "tuple"]) (h : Q (.bl (isi d.ty b)) H) : rIsi K [v, .ty b] H Q :=
  ⟨v, .ty b, .type d.ty, .type b, _, rfl, .ty b, r.tyx s, kit_of2 d hb, h⟩
end Lag

/-! Lag, part C: statements with a word between them, text times int, the store, small facts of lists. -/
namespace Lag
open PySem PySem.Spec PyProof.Rows L2
section
variable {X : Cx}
/-- st, then the rest, with a word between them -/
def tMid (t u : TS) : TS := fun D σ H => ∃ Mid : L2.St → Hp → Prop, (∀ σ' H', Mid σ' H' → u D σ' H') ∧ t { D with nx := Mid } σ H
theorem pss_mid {st : Stmt} {rest : List Stmt} {t u : TS} (h1 : PS X st t) (h2 : PSs X rest u) : PSs X (st :: rest) (tMid t u) := by
  refine ⟨fun pins s σ H D I h => ?_⟩
  obtain ⟨Mid, hu, hm⟩ := h
  refine wpAny_execs_cons (thn (h1.run pins s σ H { D with nx := Mid } I hm) fun f s1 q => ?_)
  match f, q with
  | .next, ⟨σ', H', I', q'⟩ => exact h2.run pins s1 σ' H' D I' (hu σ' H' q')
  | .ret v, q => exact q
  | .brk, q => exact q
  | .cont, q => exact q
theorem rep_one (z : Str) : (⟨(List.replicate (1 : Int).toNat z.cps).foldl (· ++ ·) #[]⟩ : Str) = z := by
  cases z
  simp [List.replicate]
theorem rep_nil (n : Nat) : (List.replicate n (#[] : Array Nat)).foldl (· ++ ·) #[] = #[] := by
  induction n with
  | zero => rfl
  | succ n ih =>
    rw [List.replicate_succ, List.foldl_cons]
    exact ih
theorem rep_list (z : Str) : ∀ (n : Nat) (a : Array Nat), ((List.replicate n z.cps).foldl (· ++ ·) a).toList = a.toList ++ (List.replicate n z.cps.toList).flatten
  | 0, a => by simp [List.replicate]
  | n + 1, a => by
    rw [List.replicate_succ, List.foldl_cons, rep_list z n, List.replicate_succ, List.flatten_cons, Array.toList_append, List.append_assoc]
theorem flat_len (l : List Nat) : ∀ n : Nat, (List.replicate n l).flatten.length = n * l.length
  | 0 => by simp [List.replicate]
  | n + 1 => by
    rw [List.replicate_succ, List.flatten_cons, List.length_append, flat_len l n, Nat.succ_mul]
    omega
/-- n times the text -/
def repS (z : Str) (n : Nat) : Str := ⟨(List.replicate n z.cps).foldl (· ++ ·) #[]⟩
theorem repS_list (z : Str) (n : Nat) : (repS z n).cps.toList = (List.replicate n z.cps.toList).flatten := by
  have h := rep_list z n #[]
  simpa [repS] using h
theorem repS_len (z : Str) (n : Nat) : (repS z n).length = n * z.length := by
  have h := congrArg List.length (repS_list z n)
  rw [flat_len] at h
  simpa [Str.length] using h
/-- a text times an int -/
def rMulS : R2 := fun x y H Q => ∃ (z : Str) (n : Int), x = .str z ∧ y = .int n ∧ z.length ≤ 1000 ∧ n ≤ 1000 ∧ -1000 ≤ n ∧ Q (.str (repS z n.toNat)) H
theorem op_mulS : OpR X (binaryOp .Mult) rMulS := by
  intro pins s σ H x y v u Q I rx ry h
  obtain ⟨z, n, rfl, rfl, hz, hn, hl, q⟩ := h
  obtain ⟨t, rfl⟩ := rx
  obtain ⟨t', rfl⟩ := ry
  refine PySem.P.mul_str ?_ ?_ ?_ ?_
  · rw [decide_eq_false (by omega), decide_eq_false (by omega)]
    rfl
  · intro h1 _
    have h4 : ((9223372036854775807 : Int)) / n ≥ 9223372036854775 := by
      have h5 : (9223372036854775 : Int) * n ≤ 9223372036854775807 := by omega
      exact (Int.le_ediv_iff_mul_le (by omega)).mpr h5
    show ¬ ((z.length : Int) > (9223372036854775807 : Int) / n)
    omega
  · intro h1 _
    have h2 : n.toNat ≤ 1000 := by omega
    have h3 : z.length * n.toNat ≤ 1000 * 1000 := Nat.mul_le_mul hz h2
    have h4 : sizeLine = 16777216 := sizeLine_eq
    unfold Builtin.Str.tooLong
    exact decide_eq_false (by omega)
  · by_cases h1 : n < 1
    · rw [if_pos h1]
      have e : n.toNat = 0 := by omega
      rw [e] at q
      exact ⟨by decide, ⟨.str Str.empty, H, I.tok _, ⟨_, rfl⟩, q⟩⟩
    · rw [if_neg h1]
      by_cases h2 : (n == 1 || z.length == 0) = true
      · rw [if_pos h2]
        have e : repS z n.toNat = z := by
          unfold repS
          rcases Bool.or_eq_true_iff.mp h2 with h3 | h3
          · have h4 : n = 1 := by simpa using h3
            rw [h4]
            exact rep_one z
          · have h4 : z.cps = #[] := Array.eq_empty_of_size_eq_zero (show z.cps.size = 0 from (by simpa using h3 : z.length = 0))
            rw [h4, rep_nil, ← h4]
        rw [e] at q
        exact ⟨.str z, H, I, ⟨_, rfl⟩, q⟩
      · rw [if_neg h2]
        have h4 : sizeLine = 16777216 := sizeLine_eq
        refine ⟨?_, .str _, H, I.tok _, ⟨_, rfl⟩, q⟩
        have h5 : n.toNat ≤ 1000 := by omega
        have h3 : n.toNat * z.length ≤ 1000 * 1000 := Nat.mul_le_mul h5 hz
        have h6 := repS_len z n.toNat
        show (repS z n.toNat).length ≤ sizeLine
        omega
end
/-! ### the store -/
theorem Wd.put {s c : Addr} {ns : List Int} {G H : Hp} (h : Wd (.at_ s c ns) G H) {i b t e : Int} (hi : 0 ≤ i) : Aft (.at_ s c ns) G H (upd H s (.lst [.ref c, .int i, .int b, .int t, .int e])) := by
  obtain ⟨h1, h2, h3, _⟩ := h.sto
  refine ⟨fun a o z n => ?_, fun a o z => ?_, h1, h2, h3, i, b, t, e, hi, upd_same⟩
  · rw [upd_ne (show a ≠ s from n)]
    exact z
  · rw [upd_ne (ne_of_none z h1)]
    exact h.sub a o z
theorem Aft.trans {S : Sr} {G H H1 H2 : Hp} (a : Aft S G H H1) (b : Aft S G H1 H2) : Aft S G H H2 := ⟨fun x o z n => b.but x o (a.but x o z n) n, b.wd⟩
theorem Aft.refl {S : Sr} {G H : Hp} (h : Wd S G H) : Aft S G H H := ⟨fun _ _ z _ => z, h⟩
theorem Wd.cells {s c : Addr} {ns : List Int} {G H : Hp} (h : Wd (.at_ s c ns) G H) : H c = some (.lst (ns.map V.int)) := h.sub _ _ h.sto.2.1
/-! ### lists of values -/
theorem ints_at {ns : List Int} {i : Nat} {x : V} (h : (ns.map V.int)[i]? = some x) : ∃ u, ns[i]? = some u ∧ x = .int u := by
  rw [List.getElem?_map] at h
  cases e : ns[i]? with
  | none => rw [e] at h; cases h
  | some u =>
    rw [e] at h
    exact ⟨u, rfl, (Option.some.inj h).symm⟩
theorem bls_at {ns : List Bool} {i : Nat} {x : V} (h : (ns.map V.bl)[i]? = some x) : ∃ u, ns[i]? = some u ∧ x = .bl u := by
  rw [List.getElem?_map] at h
  cases e : ns[i]? with
  | none => rw [e] at h; cases h
  | some u =>
    rw [e] at h
    exact ⟨u, rfl, (Option.some.inj h).symm⟩
theorem get_lt {α : Type} {xs : List α} {i : Nat} (h : i < xs.length) : ∃ x, xs[i]? = some x := ⟨xs[i], by simp [h]⟩
theorem lt_get {α : Type} {xs : List α} {i : Nat} {x : α} (h : xs[i]? = some x) : i < xs.length := (List.getElem?_eq_some_iff.mp h).1
theorem atI_int {α : Type} {xs : List α} {i : Int} {x : α} (h0 : 0 ≤ i) (h : xs[i.toNat]? = some x) : atI xs i = some x := by
  have e : i = (i.toNat : Int) := by omega
  rw [e]
  exact atI_nat h
theorem ixN_int {n : Nat} {i : Int} (h0 : 0 ≤ i) (h : i < n) : ixN n i = some i.toNat := by
  unfold ixN
  rw [if_pos h0, if_pos h]
/-- an int operation whose outcome is told -/
theorem rI0_eq {g : Int → Int → V} {i j : Int} {v : V} {H : Hp} {Q : VK} (h : g i j = v) (q : Q v H) : rI0 g (.int i) (.int j) H Q := ⟨i, j, rfl, rfl, by rw [h]; exact q⟩
theorem rI_eq {C : Int → Int → Prop} {g : Int → Int → V} {i j : Int} {v : V} {H : Hp} {Q : VK} (hc : C i j) (h : g i j = v) (q : Q v H) : rI C g (.int i) (.int j) H Q := ⟨i, j, rfl, rfl, hc, by rw [h]; exact q⟩
theorem small_sz {n : Nat} (h : n ≤ 100000) : n ≤ sizeLine := Nat.le_trans h (by decide)
theorem small_lt {n : Nat} (h : n ≤ 100000) : n < sizeLine := Nat.lt_of_le_of_lt h (by decide)
end Lag
namespace Lag
open PySem PySem.Spec PyProof.Rows L2
/-! ### rules that name the written part, for use in a comprehension's block -/
section
variable {X : Cx} (K : PySem.W.Frag)
theorem ix_listK (h : X.K = K) : IxR X (rIxL K) := by subst h; exact ix_list
theorem ix_tupK (h : X.K = K) : IxR X (rIxT K) := by subst h; exact ix_tup
theorem ix_seqK (h : X.K = K) : IxR X (rIx K) := by subst h; exact ix_seq
theorem sl_listK (h : X.K = K) : SlR X (rSlL K) := by subst h; exact sl_list
theorem sl_tupK (h : X.K = K) : SlR X (rSlT K) := by subst h; exact sl_tup
theorem op_in_seqK (h : X.K = K) : OpR X (compareOp .In) (rIn K false) := by subst h; exact op_in_seq
theorem op_notIn_seqK (h : X.K = K) : OpR X (compareOp .NotIn) (rIn K true) := by subst h; exact op_notIn_seq
theorem call_isiK2 (h : X.K = K) : CallR X (.builtin "isinstance") (rIsi K) := by subst h; exact call_isi
theorem call_isiTK (h : X.K = K) : CallR X (.builtin "isinstance") (rIsiT K) := by subst h; exact call_isiT
theorem cr_allK (h : X.K = K) (hc : X.calm = true) : CallR X (.builtin "all") (rAll K) := by subst h; exact cr_all hc
theorem cr_anyK (h : X.K = K) (hc : X.calm = true) : CallR X (.builtin "any") (rAny K) := by subst h; exact cr_any hc
def rLen2 : List V → Hp → VK → Prop := fun xs H Q => ∃ x n, xs = [x] ∧ LenV K x H n ∧ Q (.int n) H
theorem call_lenK (h : X.K = K) : CallR X (.builtin "len") (rLen2 K) := by subst h; exact call_len
def rLenQ : List V → Hp → VK → Prop := fun xs H Q => ∃ p ys, xs = [.ref p] ∧ (SqL K H p ys ∨ SqT K H p ys) ∧ Q (.int ys.length) H
theorem call_len_seqK (h : X.K = K) : CallR X (.builtin "len") (rLenQ K) := by subst h; exact call_len_seq
def rListOf : List V → Hp → VK → Prop := fun xs H Q => ∃ p ys, xs = [.ref p] ∧ (SqL K H p ys ∨ SqT K H p ys) ∧ ∀ l, H l = none → Q (.ref l) (upd H l (.lst ys))
theorem call_list_ofK (h : X.K = K) : CallR X (.type "list") (rListOf K) := by subst h; exact call_list_of
def rTupleOf2 : List V → Hp → VK → Prop := fun xs H Q => ∃ p ys, xs = [.ref p] ∧ ((SqL K H p ys ∧ ∀ l, H l = none → Q (.ref l) (upd H l (.tup ys))) ∨ (SqT K H p ys ∧ Q (.ref p) H))
theorem call_tuple_ofK (h : X.K = K) : CallR X (.type "tuple") (rTupleOf2 K) := by subst h; exact call_tuple_of
theorem pi_listK {tg l : Expr} {tl : TE} (h : X.K = K) (hl : PE X l tl) : PI X tg l (iList K tl) := by subst h; exact pi_list hl
theorem pi_tupK {tg l : Expr} {tl : TE} (h : X.K = K) (hl : PE X l tl) : PI X tg l (iTup K tl) := by subst h; exact pi_tup hl
theorem pg_tupK {es : List Expr} {k : Nat} {t : TGs} {n : Nat} {pos : Pos} (hK : X.K = K) (hc : X.calm = true) (h : PGs X es t) (hn : (assignEach es X.env).length = n := by rfl) (hst : (assignEach es X.env).findIdx? (·.1) = none := by rfl) :
    PG X (.Tuple es k pos) (gTup K n t) := by subst hK; exact pg_tup hc h hn hst
def tTru (ta : TE) : TT := fun σ H Q => ta σ H fun x H' => ∃ k, TruV K x H' k ∧ Q k H'
theorem pt_truthK {a : Expr} {ta : TE} (h : X.K = K) (ha : PE X a ta) (he : ∀ whole, isTrue a X.env whole = (do let v ← whole; standAt a.pos; holding [v] (truthy v))) : PT X a (tTru K ta) := by subst h; exact pt_truth ha he
theorem pe_fldK {e : Expr} {f : Str} {ta : TE} {pos : Pos} (h : X.K = K) (he : PE X e ta) (hb : attributeBase e f X.env (eval e X.env) = eval e X.env) : PE X (.Attribute e f pos) (tFld K ta f) := by subst h; exact pe_fld he hb
theorem pe_orTK {a b : Expr} {rest : List Expr} {ta tb : TE} {pos : Pos} (h : X.K = K) (ha : PE X a ta) (hb : PE X (.BoolOp .Or (b :: rest) pos) tb) : PE X (.BoolOp .Or (a :: b :: rest) pos) (tOrT K ta tb) := by subst h; exact pe_orT ha hb
theorem pe_andTK {a b : Expr} {rest : List Expr} {ta tb : TE} {pos : Pos} (h : X.K = K) (ha : PE X a ta) (hb : PE X (.BoolOp .And (b :: rest) pos) tb) : PE X (.BoolOp .And (a :: b :: rest) pos) (tAndT K ta tb) := by subst h; exact pe_andT ha hb
theorem pi_enumK {e : Expr} {ta : TA} {p pos tpos : Pos} {elts : List Expr} {kk : Nat} (h : X.K = K) (hg : Gl X "enumerate") (hm : X.mg "enumerate" = none) (ha : PA X [e] ta) (hs : starEach [e] X.env = [(false, eval e X.env)] := by rfl) :
    PI X (.Tuple elts kk tpos) (.Call (.Name "enumerate" p) [e] [] pos) (iEnum K ta) := by subst h; exact pi_enum hg hm ha hs
end
end Lag

/-! Lag, part D: texts as lists of signs: strip, join, slices, alphabets. -/
namespace Lag
open PySem PySem.Spec PyProof.Rows L2
/-- the signs of a text -/
abbrev cs (z : Str) : List Nat := z.cps.toList
theorem cs_len (z : Str) : (cs z).length = z.length := Array.length_toList
theorem cs_app (x y : Str) : cs (x ++ y) = cs x ++ cs y := TL.tl_append x y
theorem cs_ext {x y : Str} (h : cs x = cs y) : x = y := TL.ext_tl h
theorem cs_one (c : Nat) : cs ⟨#[c]⟩ = [c] := rfl
theorem empty_eq : ("" : Str) = Str.empty := by decide +kernel
theorem cs_empty : cs ("" : Str) = [] := by decide +kernel
theorem eq_empty {z : Str} : z = ("" : Str) ↔ cs z = [] := ⟨fun h => by rw [h]; exact cs_empty, fun h => cs_ext (by rw [h, cs_empty])⟩
/-- each sign of y is one of x -/
def Over (x y : Str) : Prop := ∀ c ∈ cs y, c ∈ cs x
instance (x y : Str) : Decidable (Over x y) := inferInstanceAs (Decidable (∀ c ∈ cs y, c ∈ cs x))
theorem Over.empty {x : Str} : Over x "" := fun c h => by rw [cs_empty] at h; cases h
theorem Over.app {x y z : Str} (h : Over x y) (h2 : Over x z) : Over x (y ++ z) := fun c m => by
  rw [cs_app] at m
  rcases List.mem_append.mp m with m | m
  · exact h c m
  · exact h2 c m
theorem Over.one {x : Str} {c : Nat} (h : c ∈ cs x) : Over x ⟨#[c]⟩ := fun d m => by
  have e : d = c := by simpa using m
  rw [e]
  exact h
/-! ### strip by signs -/
theorem drop_take {p : Nat → Bool} : ∀ l : List Nat, l.drop (l.takeWhile p).length = l.dropWhile p
  | [] => rfl
  | a :: l => by
    by_cases h : p a = true
    · rw [List.takeWhile_cons, List.dropWhile_cons, if_pos h, if_pos h]
      exact drop_take l
    · rw [List.takeWhile_cons, List.dropWhile_cons, if_neg h, if_neg h]
      rfl
theorem dropW_nil {p : Nat → Bool} : ∀ l : List Nat, (∀ c ∈ l, p c = true) ∨ ∃ a t, l.dropWhile p = a :: t ∧ p a = false
  | [] => .inl fun _ h => by cases h
  | a :: l => by
    by_cases h : p a = true
    · rcases dropW_nil (p := p) l with h1 | ⟨b, t, e, h1⟩
      · exact .inl fun c m => (List.mem_cons.mp m).elim (fun e => by rw [e]; exact h) (h1 c)
      · exact .inr ⟨b, t, by rw [List.dropWhile_cons, if_pos h]; exact e, h1⟩
    · exact .inr ⟨a, l, by rw [List.dropWhile_cons, if_neg h], by simpa using h⟩
theorem dropW_all {p : Nat → Bool} : ∀ l : List Nat, (∀ c ∈ l, p c = true) → l.dropWhile p = []
  | [], _ => rfl
  | a :: l, h => by
    rw [List.dropWhile_cons, if_pos (h a List.mem_cons_self)]
    exact dropW_all l fun c m => h c (List.mem_cons_of_mem _ m)
theorem takeW_last {p : Nat → Bool} {a : Nat} (h : p a = false) : ∀ l : List Nat, ((l ++ [a]).takeWhile p).length ≤ l.length
  | [] => by
    rw [List.nil_append, List.takeWhile_cons, if_neg (by rw [h]; decide)]
    exact Nat.zero_le _
  | b :: l => by
    rw [List.cons_append, List.takeWhile_cons]
    by_cases q : p b = true
    · rw [if_pos q]
      exact Nat.succ_le_succ (takeW_last h l)
    · rw [if_neg q]
      exact Nat.zero_le _
theorem strip_nil (x y : Str) : Txt.stripChars x y = ("" : Str) ↔ Over y x := by
  have hp : ∀ c, y.cps.contains c = true ↔ c ∈ cs y := fun c => by simp
  unfold Txt.stripChars Txt.stripBy
  rcases dropW_nil (p := y.cps.contains) (cs x) with h | ⟨a, t, e, h⟩
  · refine ⟨fun _ c m => (hp c).mp (h c m), fun _ => ?_⟩
    have tw : (cs x).takeWhile y.cps.contains = cs x := by
      have := List.takeWhile_append_dropWhile (p := y.cps.contains) (l := cs x)
      have d : (cs x).dropWhile y.cps.contains = [] := dropW_all _ h
      rw [d, List.append_nil] at this
      exact this
    have lo : PySem.stripLo y.cps.contains true x = x.length := by
      unfold PySem.stripLo
      rw [if_pos rfl]
      show ((cs x).takeWhile y.cps.contains).length = x.length
      rw [tw, cs_len]
    by_cases q : PySem.stripSame y.cps.contains true true x = true
    · rw [if_pos q]
      unfold PySem.stripSame at q
      rw [lo] at q
      have q1 := (Bool.and_eq_true_iff.mp q).1
      have q2 : x.length = 0 := by simpa using q1
      rw [eq_empty]
      exact List.eq_nil_of_length_eq_zero ((cs_len x).trans q2)
    · rw [if_neg q]
      unfold PySem.stripped
      rw [lo, eq_empty]
      show (x.cps.extract x.length _).toList = []
      rw [Array.toList_extract]
      apply List.eq_nil_of_length_eq_zero
      rw [List.length_take, List.length_drop]
      show min _ ((cs x).length - x.length) = 0
      rw [cs_len]
      omega
  · refine ⟨fun z => ?_, fun z => ?_⟩
    · exfalso
      have lo : PySem.stripLo y.cps.contains true x = ((cs x).takeWhile y.cps.contains).length := by
        unfold PySem.stripLo
        rw [if_pos rfl]
      have len : ((cs x).takeWhile y.cps.contains).length + (t.length + 1) = x.length := by
        have := congrArg List.length (List.takeWhile_append_dropWhile (p := y.cps.contains) (l := cs x))
        rw [List.length_append, e, cs_len] at this
        exact this
      have hi : PySem.stripHi y.cps.contains true x (PySem.stripLo y.cps.contains true x) ≥ ((cs x).takeWhile y.cps.contains).length + 1 := by
        unfold PySem.stripHi
        rw [if_pos rfl, lo]
        show x.length - (((cs x).drop ((cs x).takeWhile y.cps.contains).length).reverse.takeWhile y.cps.contains).length ≥ _
        rw [drop_take, e, List.reverse_cons]
        have := takeW_last h t.reverse
        rw [List.length_reverse] at this
        omega
      by_cases q : PySem.stripSame y.cps.contains true true x = true
      · rw [if_pos q, eq_empty] at z
        have := congrArg List.length z
        rw [cs_len] at this
        simp at this
        omega
      · rw [if_neg q, eq_empty] at z
        unfold PySem.stripped at z
        have z2 : (x.cps.extract (PySem.stripLo y.cps.contains true x) (PySem.stripHi y.cps.contains true x (PySem.stripLo y.cps.contains true x))).toList = [] := z
        rw [Array.toList_extract] at z2
        have z3 := congrArg List.length z2
        rw [List.length_take, List.length_drop, lo] at z3
        rw [lo] at hi
        have z4 : x.cps.toList.length = x.length := cs_len x
        rw [z4] at z3
        simp only [List.length_nil] at z3
        omega
    · exfalso
      have m : a ∈ cs x := by
        have : a ∈ (cs x).dropWhile y.cps.contains := by rw [e]; exact List.mem_cons_self
        exact (List.dropWhile_sublist _).subset this
      have := (hp a).mpr (z a m)
      rw [h] at this
      cases this
/-! ### join -/
theorem cs_join : ∀ ys : List Str, cs (Txt.join ("" : Str) ys) = (ys.map cs).flatten := by
  intro ys
  rw [TL.join_eq]
  show TL.tl (Str.join "" ys) = _
  rw [TL.tl_join]
  show TL.joinL (cs "") (ys.map cs) = _
  rw [cs_empty]
  generalize ys.map cs = ls
  induction ls with
  | nil => rfl
  | cons p r ih =>
    cases r with
    | nil => simp [TL.joinL]
    | cons q r =>
      show p ++ ([] ++ TL.joinL [] (q :: r)) = _
      rw [ih, List.nil_append, List.flatten_cons, List.flatten_cons, List.flatten_cons]
/-- n signs of x -/
theorem join_over {x : Str} {ys : List Str} (h : ∀ y ∈ ys, ∃ c ∈ cs x, y = ⟨#[c]⟩) : Over x (Txt.join "" ys) ∧ (Txt.join "" ys).length = ys.length := by
  refine ⟨fun c m => ?_, ?_⟩
  · rw [cs_join] at m
    obtain ⟨l, m1, m2⟩ := List.mem_flatten.mp m
    obtain ⟨y, m3, rfl⟩ := List.mem_map.mp m1
    obtain ⟨d, hd, rfl⟩ := h y m3
    have e : c = d := by simpa using m2
    rw [e]
    exact hd
  · rw [← cs_len, cs_join]
    have go : ∀ ys : List Str, (∀ y ∈ ys, ∃ c ∈ cs x, y = ⟨#[c]⟩) → (ys.map cs).flatten.length = ys.length := by
      intro ys
      induction ys with
      | nil => intro _; rfl
      | cons y ys ih =>
        intro h
        obtain ⟨c, _, e⟩ := h y List.mem_cons_self
        have e2 : (cs y).length = 1 := by rw [e] <;> rfl
        rw [List.map_cons, List.flatten_cons, List.length_append, List.length_cons, e2, ih fun z m => h z (List.mem_cons_of_mem _ m)]
        omega
    exact go ys h
/-! ### slices -/
theorem cs_cut (z : Str) (lo hi : Option Int) : cs (cutS z lo hi) = ((cs z).drop (HT.sIx z.length 0 lo)).take (HT.sIx z.length z.length hi - HT.sIx z.length 0 lo) := rfl
theorem Over.cut {x z : Str} (h : Over x z) (lo hi : Option Int) : Over x (cutS z lo hi) := fun c m => h c (List.mem_of_mem_drop (List.mem_of_mem_take (by rw [cs_cut] at m; exact m)))
theorem cut_len (z : Str) (lo hi : Option Int) : (cutS z lo hi).length = min (HT.sIx z.length z.length hi - HT.sIx z.length 0 lo) (z.length - HT.sIx z.length 0 lo) := by
  rw [← cs_len, cs_cut, List.length_take, List.length_drop, cs_len]
theorem Over.rep {x z : Str} (h : Over x z) (n : Nat) : Over x (repS z n) := fun c m => by
  have m2 : c ∈ (List.replicate n (cs z)).flatten := by
    rw [← repS_list]
    exact m
  obtain ⟨l, m3, m4⟩ := List.mem_flatten.mp m2
  rw [List.eq_of_mem_replicate m3] at m4
  exact h c m4
/-! ### alphabets -/
/-- an alphabet of at most n letters -/
structure Alph (n : Nat) (z : Str) : Prop where
  asc : (cs z).Pairwise (· < ·)
  low : ∀ c ∈ cs z, 97 ≤ c ∧ c ≤ 122
  one : 1 ≤ z.length
  most : z.length ≤ n
theorem Alph.mono {n m : Nat} {z : Str} (h : Alph n z) (k : n ≤ m) : Alph m z := ⟨h.asc, h.low, h.one, Nat.le_trans h.most k⟩
def abc : Str := "abcdefghijklmnopqrstuvwxyz"
theorem abc_cs : cs abc = (List.range 26).map (· + 97) := by decide +kernel
theorem abc_len : abc.length = 26 := by decide +kernel
theorem mem_abc {c : Nat} : c ∈ cs abc ↔ 97 ≤ c ∧ c ≤ 122 := by
  rw [abc_cs, List.mem_map]
  constructor
  · rintro ⟨i, hi, rfl⟩
    have := List.mem_range.mp hi
    omega
  · rintro ⟨h1, h2⟩
    exact ⟨c - 97, List.mem_range.mpr (by omega), by omega⟩
theorem Alph.over {n : Nat} {z : Str} (h : Alph n z) : Over abc z := fun c m => mem_abc.mpr (h.low c m)
end Lag

/-! Lag, part E: own lists with their data; the parts of a reader. -/
namespace Lag
open PySem PySem.Spec PyProof.Rows L2
/-! ### own lists -/
abbrev OwnL := List (Addr × List V × List D)
def ofL : OwnL → Hp
  | [] => nil
  | (b, vs, _) :: r => fun a => if a = b then some (.lst vs) else ofL r a
/-- as Hs, the own things being lists of data -/
structure Own (S : Sr) (G0 H0 : Hp) (L : OwnL) (G H : Hp) : Prop where
  hs : Hs S G0 H0 G (ofL L) H
  rep : ∀ x ∈ L, Reps G x.2.1 x.2.2
  nd : (L.map (·.1)).Nodup
theorem ofL_mem : ∀ {L : OwnL} {x : Addr × List V × List D}, (L.map (·.1)).Nodup → x ∈ L → ofL L x.1 = some (.lst x.2.1)
  | y :: L, x, nd, h => by
    obtain ⟨b, vs, ds⟩ := y
    show (if x.1 = b then some (HO.lst vs) else ofL L x.1) = _
    rcases List.mem_cons.mp h with e | h
    · rw [e, if_pos rfl]
    · have nd2 := List.nodup_cons.mp nd
      have ne : x.1 ≠ b := fun e => nd2.1 (by show b ∈ _; rw [← e]; exact List.mem_map_of_mem h)
      rw [if_neg ne]
      exact ofL_mem nd2.2 h
theorem ofL_none : ∀ {L : OwnL} {a : Addr}, a ∉ L.map (·.1) → ofL L a = none
  | [], _, _ => rfl
  | (b, vs, ds) :: L, a, h => by
    show (if a = b then some (HO.lst vs) else ofL L a) = none
    rw [if_neg (fun e => h (by rw [e]; exact List.mem_cons_self))]
    exact ofL_none fun m => h (List.mem_cons_of_mem _ m)
theorem ofL_some : ∀ {L : OwnL} {a : Addr} {o : HO}, ofL L a = some o → a ∈ L.map (·.1)
  | [], a, o, h => by cases h
  | (b, vs, ds) :: L, a, o, h => by
    by_cases e : a = b
    · rw [e]; exact List.mem_cons_self
    · have h2 : (if a = b then some (HO.lst vs) else ofL L a) = some o := h
      rw [if_neg e] at h2
      exact List.mem_cons_of_mem _ (ofL_some h2)
/-- one list of them is another now -/
theorem ofL_upd : ∀ {A : OwnL} {l : Addr} {vs vs' : List V} {ds ds' : List D} {B : OwnL}, l ∉ A.map (·.1) → ofL (A ++ (l, vs', ds') :: B) = upd (ofL (A ++ (l, vs, ds) :: B)) l (.lst vs')
  | [], l, vs, vs', ds, ds', B, _ => by
    funext a
    show (if a = l then some (HO.lst vs') else ofL B a) = _
    by_cases e : a = l
    · rw [if_pos e, e, upd_same]
    · rw [if_neg e, upd_ne e]
      show _ = (if a = l then some (HO.lst vs) else ofL B a)
      rw [if_neg e]
  | (b, ws, es) :: A, l, vs, vs', ds, ds', B, h => by
    have ih := ofL_upd (A := A) (l := l) (vs := vs) (vs' := vs') (ds := ds) (ds' := ds') (B := B) fun m => h (List.mem_cons_of_mem _ m)
    have ne : l ≠ b := fun e => h (by rw [e]; exact List.mem_cons_self)
    funext a
    show (if a = b then some (HO.lst ws) else ofL (A ++ (l, vs', ds') :: B) a) = _
    by_cases e : a = b
    · rw [if_pos e, e, upd_ne ne.symm]
      show _ = (if b = b then some (HO.lst ws) else ofL (A ++ (l, vs, ds) :: B) b)
      rw [if_pos rfl]
    · rw [if_neg e, ih]
      by_cases q : a = l
      · rw [q, upd_same, upd_same]
      · rw [upd_ne q, upd_ne q]
        show _ = (if a = b then some (HO.lst ws) else ofL (A ++ (l, vs, ds) :: B) a)
        rw [if_neg e]
section
variable {S : Sr} {G0 H0 G H H' : Hp} {p l : Addr} {o : HO} {L A B : OwnL} {vs : List V} {ds : List D} {v : V} {d : D}
theorem Own.start (h : Wd S G H) : Own S G H [] G H := ⟨Hs.start h, fun _ h => (by cases h), List.Pairwise.nil⟩
theorem Own.wd (h : Own S G0 H0 L G H) : Wd S G H := h.hs.wd
theorem Own.call (h : Own S G0 H0 L G H) (a : Aft S G H H') : Own S G0 H0 L (grow G H H') H' := ⟨h.hs.call a, fun x m => (h.rep x m).mono grow_same, h.nd⟩
theorem Own.same (h : Own S G0 H0 L G H) (s : Same H H') : Own S G0 H0 L G H' := ⟨h.hs.same s, h.rep, h.nd⟩
theorem Own.drop (h : Own S G0 H0 L G H) (e : H p = none) : Own S G0 H0 L G (upd H p o) := ⟨h.hs.drop e, h.rep, h.nd⟩
theorem Own.newG (h : Own S G0 H0 L G H) (e : H p = none) : Own S G0 H0 L (upd G p o) (upd H p o) := ⟨h.hs.newG e, fun x m => (h.rep x m).mono (same_new (h.hs.fG e)), h.nd⟩
theorem Own.at_ (h : Own S G0 H0 L G H) {x : Addr × List V × List D} (m : x ∈ L) : H x.1 = some (.lst x.2.1) := h.hs.mm (ofL_mem h.nd m)
theorem Own.new_ne (h : Own S G0 H0 L G H) (e : H p = none) : p ∉ L.map (·.1) := fun m => by
  obtain ⟨x, mx, rfl⟩ := List.mem_map.mp m
  rw [h.at_ mx] at e
  cases e
theorem Own.newL (h : Own S G0 H0 L G H) (e : H p = none) (r : Reps G vs ds) : Own S G0 H0 ((p, vs, ds) :: L) G (upd H p (.lst vs)) := by
  have q := h.hs.newM (o := .lst vs) e
  have e2 : ofL ((p, vs, ds) :: L) = upd (ofL L) p (.lst vs) := rfl
  exact ⟨by rw [e2]; exact q, fun x m => (List.mem_cons.mp m).elim (fun z => by rw [z]; exact r) (h.rep x), List.nodup_cons.mpr ⟨h.new_ne e, h.nd⟩⟩
/-- a call has made the list p, which will change -/
theorem Own.callL (h : Own S G0 H0 L G H) (a : Aft S G H H') (e : H p = none) (e' : H' p = some (.lst vs)) (r : Reps (era (grow G H H') p) vs ds) : Own S G0 H0 ((p, vs, ds) :: L) (era (grow G H H') p) H' := by
  refine ⟨?_, fun x m => (List.mem_cons.mp m).elim (fun z => by rw [z]; exact r) fun m => ?_, List.nodup_cons.mpr ⟨h.new_ne e, h.nd⟩⟩
  · have e2 : ofL ((p, vs, ds) :: L) = upd (ofL L) p (.lst vs) := rfl
    rw [e2]
    exact h.hs.callM a e e'
  · exact (h.rep x m).mono fun b u z => era_of (grow_old z) (ne_of_none z (h.hs.fG e))
theorem Own.put (h : Own S G0 H0 (A ++ (l, vs, ds) :: B) G H) {vs' : List V} {ds' : List D} (r : Reps G vs' ds') : Own S G0 H0 (A ++ (l, vs', ds') :: B) G (upd H l (.lst vs')) := by
  have hm : (l, vs, ds) ∈ A ++ (l, vs, ds) :: B := by simp
  have nd := h.nd
  rw [List.map_append, List.map_cons] at nd
  have nA : l ∉ A.map (·.1) := fun m => (List.nodup_append.mp nd).2.2 l m l List.mem_cons_self rfl
  refine ⟨?_, fun x m => ?_, by rw [List.map_append, List.map_cons]; exact nd⟩
  · rw [ofL_upd (vs := vs) (ds := ds) nA]
    exact h.hs.set (ofL_mem h.nd hm)
  · rcases List.mem_append.mp m with m | m
    · exact h.rep x (List.mem_append_left _ m)
    · rcases List.mem_cons.mp m with m | m
      · rw [m]; exact r
      · exact h.rep x (List.mem_append_right _ (List.mem_cons_of_mem _ m))
theorem Own.app (h : Own S G0 H0 (A ++ (l, vs, ds) :: B) G H) (r : Rep G v d) : Own S G0 H0 (A ++ (l, vs ++ [v], ds ++ [d]) :: B) G (upd H l (.lst (vs ++ [v]))) := h.put ((h.rep (l, vs, ds) (by simp)).snoc r)
theorem Own.setAt (h : Own S G0 H0 (A ++ (l, vs, ds) :: B) G H) (i : Nat) (r : Rep G v d) : Own S G0 H0 (A ++ (l, vs.set i v, ds.set i d) :: B) G (upd H l (.lst (vs.set i v))) := h.put (Reps.set r i (h.rep (l, vs, ds) (by simp)))
/-- the first of them changes no more -/
theorem Own.fin (h : Own S G0 H0 ((l, vs, ds) :: L) G H) : Own S G0 H0 L (upd G l (.lst vs)) H ∧ Rep (upd G l (.lst vs)) (.ref l) (.lst ds) := by
  have q := h.hs.frz (l := l) (o := .lst vs) (ofL_mem (x := (l, vs, ds)) h.nd List.mem_cons_self)
  have nd2 := List.nodup_cons.mp h.nd
  have sm : Same G (upd G l (.lst vs)) := same_new (h.hs.m l (.lst vs) (ofL_mem (x := (l, vs, ds)) h.nd List.mem_cons_self)).2.1
  refine ⟨⟨q.less fun a o e => ?_, fun x m => (h.rep x (List.mem_cons_of_mem _ m)).mono sm, nd2.2⟩, .lst upd_same ((h.rep _ List.mem_cons_self).mono sm)⟩
  have ne : a ≠ l := fun z => nd2.1 (by rw [← z]; exact ofL_some e)
  refine era_of ?_ ne
  show (if a = l then some (HO.lst vs) else ofL L a) = some o
  rw [if_neg ne]
  exact e
theorem Own.perm (h : Own S G0 H0 L G H) {L' : OwnL} (p : L.Perm L') : Own S G0 H0 L' G H := by
  have nd' : (L'.map (·.1)).Nodup := (p.map _).nodup_iff.mp h.nd
  refine ⟨h.hs.less fun a o e => ?_, fun x m => h.rep x (p.mem_iff.mpr m), nd'⟩
  obtain ⟨x, mx, rfl⟩ := List.mem_map.mp (ofL_some e)
  rw [ofL_mem nd' mx] at e
  rw [← e]
  exact ofL_mem h.nd (p.mem_iff.mpr mx)
theorem Own.less (h : Own S G0 H0 (A ++ B) G H) : Own S G0 H0 B G H := by
  have nd := h.nd
  rw [List.map_append] at nd
  have ndB := (List.nodup_append.mp nd).2.1
  refine ⟨h.hs.less fun a o e => ?_, fun x m => h.rep x (List.mem_append_right _ m), ndB⟩
  obtain ⟨x, mx, rfl⟩ := List.mem_map.mp (ofL_some e)
  rw [ofL_mem ndB mx] at e
  rw [← e]
  exact ofL_mem h.nd (List.mem_append_right _ mx)
theorem Own.aft (h : Own S G0 H0 L G H) (h0 : Wd S G0 H0) : Aft S G0 H0 H := h.hs.aft h0
theorem Own.out (h : Own S G0 H0 L G H) (r : Rep G v d) : Rep (grow G0 H0 H) v d := r.mono h.hs.out
end
/-! ### a reader's parts -/
abbrev Mv := Option (Str × Nat)
structure Pt where
  rd : Str
  wr : Str
  first : Str
  mv : List (List Mv)
  fi : List (Option Str)
def dMv : Mv → D
  | none => .non
  | some (x, t) => .tup [.str x, .int t]
def dRow (r : List Mv) : D := .lst (r.map dMv)
def dMoves (m : List (List Mv)) : D := .lst (m.map dRow)
def dFin : Option Str → D
  | none => .non
  | some x => .str x
def dFins (f : List (Option Str)) : D := .lst (f.map dFin)
def dPt (p : Pt) : D := .tup [.str p.rd, .str p.wr, .str p.first, dMoves p.mv, dFins p.fi]
/-- a word over x of at most n signs -/
def Wrd (n : Nat) (x y : Str) : Prop := Over x y ∧ y.length ≤ n
def OkMv (n : Nat) (x : Str) (size : Nat) (m : Mv) : Prop := ∀ y t, m = some (y, t) → Wrd n x y ∧ t < size
def OkFi (n : Nat) (x : Str) (f : Option Str) : Prop := ∀ y, f = some y → Wrd n x y
def OkRow (n : Nat) (rd wr : Str) (size : Nat) (r : List Mv) : Prop := r.length = rd.length ∧ ∀ m ∈ r, OkMv n wr size m
/-- right arguments of a reader, its words of at most n letters -/
structure OkPt (n : Nat) (p : Pt) : Prop where
  ard : Alph 4 p.rd
  awr : Alph 4 p.wr
  first : Wrd n p.wr p.first
  one : 1 ≤ p.mv.length
  most : p.mv.length ≤ 64
  rows : ∀ r ∈ p.mv, OkRow n p.rd p.wr p.mv.length r
  fins : p.fi.length = p.mv.length
  fin : ∀ f ∈ p.fi, OkFi n p.wr f
theorem Wrd.mono {n m : Nat} {x y : Str} (h : Wrd n x y) (k : n ≤ m) : Wrd m x y := ⟨h.1, Nat.le_trans h.2 k⟩
theorem OkPt.mono {n m : Nat} {p : Pt} (h : OkPt n p) (k : n ≤ m) : OkPt m p :=
  ⟨h.ard, h.awr, h.first.mono k, h.one, h.most, fun r mr => ⟨(h.rows r mr).1, fun x mx y t e => let ⟨a, b⟩ := (h.rows r mr).2 x mx y t e; ⟨a.mono k, b⟩⟩, h.fins, fun f mf y e => (h.fin f mf y e).mono k⟩
theorem Rep.mv_ {G : Hp} {p : Addr} {y : Str} {t : Nat} (h : G p = some (.tup [.str y, .int t])) : Rep G (.ref p) (dMv (some (y, t))) := .tup h (.cons (.str y) (.cons (.int t) .nil))
theorem reps_snoc {α : Type} (f : α → D) (xs : List α) (x : α) : xs.map f ++ [f x] = (xs ++ [x]).map f := by simp
end Lag
namespace Lag
open PySem PySem.Spec PyProof.Rows L2
/-! ### more about slices and alphabets -/
theorem sIx_cut (n d k : Nat) : HT.sIx n d (some (k : Int)) = min k n := HT.sIx_nat n d k
theorem cut_head (z : Str) (k : Nat) : (cutS z none (some (k : Int))).length = min k z.length := by
  rw [cut_len, sIx_cut, HT.sIx_none]
  omega
theorem cut_tail (z : Str) (k : Nat) : (cutS z (some (k : Int)) none).length = z.length - min k z.length := by
  rw [cut_len, sIx_cut, HT.sIx_none]
  omega
theorem app_len (x y : Str) : (x ++ y).length = x.length + y.length := by
  rw [← cs_len, cs_app, List.length_append, cs_len, cs_len]
theorem one_len (q : Nat) : (⟨#[q]⟩ : Str).length = 1 := rfl
theorem other_letter {l : List Nat} (h : l.Pairwise (· < ·)) (h2 : 2 ≤ l.length) (q : Nat) : ∃ c ∈ l, c ≠ q := by
  match l, h, h2 with
  | a :: b :: r, h, _ =>
    have hab : a < b := (List.pairwise_cons.mp h).1 b List.mem_cons_self
    by_cases e : a = q
    · exact ⟨b, List.mem_cons_of_mem _ List.mem_cons_self, by omega⟩
    · exact ⟨a, List.mem_cons_self, e⟩
/-- a sign as a value, as data -/
abbrev sg (q : Nat) : V := .str ⟨#[q]⟩
abbrev dsg (q : Nat) : D := .str ⟨#[q]⟩
theorem take_snoc {α : Type} {l : List α} {i : Nat} {x : α} (h : l[i]? = some x) : l.take (i + 1) = l.take i ++ [x] := by
  rw [List.take_add_one, h]
  rfl
theorem cps_at {z : Str} {i c : Nat} (h : z.cps[i]? = some c) : (cs z)[i]? = some c := by
  rw [Array.getElem?_toList]
  exact h
end Lag
namespace Lag
open PySem PySem.Spec PyProof.Rows L2
/-! ### what the checks of values tell -/
theorem asc_of {l : List Nat} (h : ∀ (j a b : Nat), l[j]? = some a → l[j + 1]? = some b → a < b) : l.Pairwise (· < ·) := by
  induction l with
  | nil => exact .nil
  | cons x l ih =>
    have ih2 := ih fun j a b h1 h2 => h (j + 1) a b (by simpa using h1) (by simpa using h2)
    refine List.pairwise_cons.mpr ⟨fun y hy => ?_, ih2⟩
    cases l with
    | nil => cases hy
    | cons z l =>
      have hz : x < z := h 0 x z rfl rfl
      rcases List.mem_cons.mp hy with e | hy
      · rw [e]; exact hz
      · exact Nat.lt_trans hz ((List.pairwise_cons.mp ih2).1 y hy)
theorem asc_at {l : List Nat} (h : l.Pairwise (· < ·)) {j a b : Nat} (h1 : l[j]? = some a) (h2 : l[j + 1]? = some b) : a < b := by
  obtain ⟨p1, e1⟩ := List.getElem?_eq_some_iff.mp h1
  obtain ⟨p2, e2⟩ := List.getElem?_eq_some_iff.mp h2
  rw [← e1, ← e2]
  exact List.pairwise_iff_getElem.mp h j (j + 1) p1 p2 (Nat.lt_succ_self j)
theorem alph_iff {n : Nat} {z : Str} : Alph n z ↔ ((cs z).Pairwise (· < ·) ∧ Over abc z) ∧ 1 ≤ z.length ∧ z.length ≤ n :=
  ⟨fun h => ⟨⟨h.asc, h.over⟩, h.one, h.most⟩, fun h => ⟨h.1.1, fun c m => mem_abc.mp (h.1.2 c m), h.2.1, h.2.2⟩⟩
instance (n : Nat) (z : Str) : Decidable (Alph n z) := decidable_of_iff _ alph_iff.symm
def isLet : D → Bool
  | .str z => decide (Alph 4 z)
  | _ => false
def isWord : D → D → Bool
  | .str x, .str y => decide (Alph 4 x) && decide (Over x y)
  | _, _ => false
def isWritten : D → D → Bool
  | .str x, .str y => decide (Alph 4 x) && (decide (Over x y) && decide (y.length ≤ 400))
  | _, _ => false
def isState : D → Nat → Bool
  | .int i, n => decide (0 ≤ i ∧ i < n)
  | _, _ => false
def isMove (x : D) : D → Nat → Bool
  | .tup [d, e], n => isWritten x d && isState e n
  | _, _ => false
/-- texts in it are not too long -/
def Sz : D → Prop
  | .str z => z.length ≤ 1000000
  | _ => True
theorem one_lt {a b : Nat} : ([a] : List Nat) < [b] ↔ a < b := by
  constructor
  · intro h
    cases h with
    | rel h => exact h
    | cons h => cases h
  · intro h
    exact List.Lex.rel h
theorem sgn_lt (a b : Nat) : decide ((⟨#[a]⟩ : Str).cps.toList < (⟨#[b]⟩ : Str).cps.toList) = decide (a < b) := decide_eq_decide.mpr one_lt
end Lag
namespace Lag
open PySem PySem.Spec PyProof.Rows L2
/-! ### which data isinstance takes -/
theorem isi_eq (d : D) : (isi d.ty "str" = true ↔ ∃ z, d = .str z) ∧ (isi d.ty "bool" = true ↔ ∃ b, d = .bl b) ∧ (isi d.ty "int" = true ↔ (∃ i, d = .int i) ∨ ∃ b, d = .bl b) ∧ (isi d.ty "list" = true ↔ ∃ l, d = .lst l) ∧ (isi d.ty "tuple" = true ↔ ∃ l, d = .tup l) := by
  have no : ∀ {b : Bool} {p : Prop}, b = false → ¬ p → (b = true ↔ p) := fun h1 h2 => ⟨fun h => (by rw [h1] at h; cases h), fun h => (h2 h).elim⟩
  have yes : ∀ {b : Bool} {p : Prop}, b = true → p → (b = true ↔ p) := fun h1 h2 => ⟨fun _ => h2, fun _ => h1⟩
  have f : isi "NoneType" "str" = false ∧ isi "NoneType" "bool" = false ∧ isi "NoneType" "int" = false ∧ isi "NoneType" "list" = false ∧ isi "NoneType" "tuple" = false ∧
    isi "bool" "str" = false ∧ isi "bool" "bool" = true ∧ isi "bool" "int" = true ∧ isi "bool" "list" = false ∧ isi "bool" "tuple" = false ∧
    isi "int" "str" = false ∧ isi "int" "bool" = false ∧ isi "int" "int" = true ∧ isi "int" "list" = false ∧ isi "int" "tuple" = false ∧
    isi "str" "str" = true ∧ isi "str" "bool" = false ∧ isi "str" "int" = false ∧ isi "str" "list" = false ∧ isi "str" "tuple" = false ∧
    isi "list" "str" = false ∧ isi "list" "bool" = false ∧ isi "list" "int" = false ∧ isi "list" "list" = true ∧ isi "list" "tuple" = false ∧
    isi "tuple" "str" = false ∧ isi "tuple" "bool" = false ∧ isi "tuple" "int" = false ∧ isi "tuple" "list" = false ∧ isi "tuple" "tuple" = true := by decide +kernel
  obtain ⟨a1, a2, a3, a4, a5, b1, b2, b3, b4, b5, c1, c2, c3, c4, c5, d1, d2, d3, d4, d5, e1, e2, e3, e4, e5, f1, f2, f3, f4, f5⟩ := f
  cases d with
  | non => exact ⟨no a1 (by simp), no a2 (by simp), no a3 (by simp), no a4 (by simp), no a5 (by simp)⟩
  | bl b => exact ⟨no b1 (by simp), yes b2 ⟨_, rfl⟩, yes b3 (.inr ⟨_, rfl⟩), no b4 (by simp), no b5 (by simp)⟩
  | int i => exact ⟨no c1 (by simp), no c2 (by simp), yes c3 (.inl ⟨_, rfl⟩), no c4 (by simp), no c5 (by simp)⟩
  | str x => exact ⟨yes d1 ⟨_, rfl⟩, no d2 (by simp), no d3 (by simp), no d4 (by simp), no d5 (by simp)⟩
  | lst l => exact ⟨no e1 (by simp), no e2 (by simp), no e3 (by simp), yes e4 ⟨_, rfl⟩, no e5 (by simp)⟩
  | tup l => exact ⟨no f1 (by simp), no f2 (by simp), no f3 (by simp), no f4 (by simp), yes f5 ⟨_, rfl⟩⟩
theorem isi_str (d : D) : isi d.ty "str" = true ↔ ∃ z, d = .str z := (isi_eq d).1
theorem isi_bool (d : D) : isi d.ty "bool" = true ↔ ∃ b, d = .bl b := (isi_eq d).2.1
theorem isi_int (d : D) : isi d.ty "int" = true ↔ (∃ i, d = .int i) ∨ ∃ b, d = .bl b := (isi_eq d).2.2.1
theorem isi_list (d : D) : isi d.ty "list" = true ↔ ∃ l, d = .lst l := (isi_eq d).2.2.2.1
theorem isi_tuple (d : D) : isi d.ty "tuple" = true ↔ ∃ l, d = .tup l := (isi_eq d).2.2.2.2
theorem bF {b : Bool} (h : ¬ b = true) : b = false := by
  cases b with
  | true => exact (h rfl).elim
  | false => rfl
end Lag

/-! Lag, part F: own lists and one more own thing, whose content is no data yet (a list of own lists, an instance). -/
namespace Lag
open PySem PySem.Spec PyProof.Rows L2
structure OwnX (S : Sr) (G0 H0 : Hp) (D : Addr) (o : HO) (L : OwnL) (G H : Hp) : Prop where
  hs : Hs S G0 H0 G (upd (ofL L) D o) H
  rep : ∀ x ∈ L, Reps G x.2.1 x.2.2
  nd : (L.map (·.1)).Nodup
  nD : D ∉ L.map (·.1)
theorem upd_comm {M : Hp} {a b : Addr} {o u : HO} (h : a ≠ b) : upd (upd M a o) b u = upd (upd M b u) a o := by
  funext c
  by_cases ea : c = a
  · rw [ea, upd_ne h, upd_same, upd_same]
  · by_cases eb : c = b
    · rw [eb, upd_same, upd_ne h.symm, upd_same]
    · rw [upd_ne eb, upd_ne ea, upd_ne ea, upd_ne eb]
theorem split_at {α : Type} {xs : List α} {k : Nat} {x : α} (h : xs[k]? = some x) : xs = xs.take k ++ x :: xs.drop (k + 1) := by
  have e := List.take_append_drop k xs
  have hk := lt_get h
  have e2 : xs.drop k = x :: xs.drop (k + 1) := by
    rw [List.drop_eq_getElem_cons hk]
    congr 1
    exact (List.getElem?_eq_some_iff.mp h).2
  rw [e2] at e
  exact e.symm
theorem set_split {α : Type} {xs : List α} {k : Nat} {x y : α} (h : xs[k]? = some x) : xs.set k y = xs.take k ++ y :: xs.drop (k + 1) := List.set_eq_take_append_cons_drop.trans (if_pos (lt_get h))
theorem set_self {α : Type} {xs : List α} {k : Nat} {x : α} (h : xs[k]? = some x) : xs.set k x = xs := (set_split h).trans (split_at h).symm
section
variable {S : Sr} {G0 H0 G H H' : Hp} {p l D : Addr} {o o' u : HO} {L A B : OwnL} {vs vs' : List V} {ds ds' : List Lag.D} {v : V} {d : Lag.D}
theorem OwnX.wd (h : OwnX S G0 H0 D o L G H) : Wd S G H := h.hs.wd
theorem Own.newX (h : Own S G0 H0 L G H) (e : H D = none) : OwnX S G0 H0 D o L G (upd H D o) := ⟨h.hs.newM e, h.rep, h.nd, h.new_ne e⟩
theorem OwnX.atX (h : OwnX S G0 H0 D o L G H) : H D = some o := h.hs.mm upd_same
theorem OwnX.at_ (h : OwnX S G0 H0 D o L G H) {x : Addr × List V × List Lag.D} (m : x ∈ L) : H x.1 = some (.lst x.2.1) := by
  refine h.hs.mm ?_
  rw [upd_ne (fun e => h.nD (by rw [← e]; exact List.mem_map_of_mem m))]
  exact ofL_mem h.nd m
theorem OwnX.call (h : OwnX S G0 H0 D o L G H) (a : Aft S G H H') : OwnX S G0 H0 D o L (grow G H H') H' := ⟨h.hs.call a, fun x m => (h.rep x m).mono grow_same, h.nd, h.nD⟩
theorem OwnX.drop (h : OwnX S G0 H0 D o L G H) (e : H p = none) : OwnX S G0 H0 D o L G (upd H p u) := ⟨h.hs.drop e, h.rep, h.nd, h.nD⟩
theorem OwnX.same (h : OwnX S G0 H0 D o L G H) (s : Same H H') : OwnX S G0 H0 D o L G H' := ⟨h.hs.same s, h.rep, h.nd, h.nD⟩
theorem OwnX.newG (h : OwnX S G0 H0 D o L G H) (e : H p = none) : OwnX S G0 H0 D o L (upd G p u) (upd H p u) := ⟨h.hs.newG e, fun x m => (h.rep x m).mono (same_new (h.hs.fG e)), h.nd, h.nD⟩
theorem OwnX.new_ne (h : OwnX S G0 H0 D o L G H) (e : H p = none) : p ∉ L.map (·.1) := fun m => by
  obtain ⟨x, mx, rfl⟩ := List.mem_map.mp m
  rw [h.at_ mx] at e
  cases e
theorem OwnX.new_nX (h : OwnX S G0 H0 D o L G H) (e : H p = none) : D ≠ p := ne_of_none h.atX e
theorem OwnX.newL (h : OwnX S G0 H0 D o L G H) (e : H p = none) (r : Reps G vs ds) : OwnX S G0 H0 D o ((p, vs, ds) :: L) G (upd H p (.lst vs)) := by
  have nx := h.new_nX e
  refine ⟨?_, fun x m => (List.mem_cons.mp m).elim (fun z => by rw [z]; exact r) (h.rep x), List.nodup_cons.mpr ⟨h.new_ne e, h.nd⟩, fun m => (List.mem_cons.mp m).elim nx h.nD⟩
  have q := h.hs.newM (o := .lst vs) e
  rw [upd_comm nx] at q
  exact q
theorem OwnX.setX (h : OwnX S G0 H0 D o L G H) : OwnX S G0 H0 D o' L G (upd H D o') := by
  have q := h.hs.set (o' := o') upd_same
  rw [upd_upd] at q
  exact ⟨q, h.rep, h.nd, h.nD⟩
theorem OwnX.put (h : OwnX S G0 H0 D o (A ++ (l, vs, ds) :: B) G H) (r : Reps G vs' ds') : OwnX S G0 H0 D o (A ++ (l, vs', ds') :: B) G (upd H l (.lst vs')) := by
  have hm : (l, vs, ds) ∈ A ++ (l, vs, ds) :: B := by simp
  have ml : l ∈ (A ++ (l, vs, ds) :: B).map (·.1) := List.mem_map_of_mem (f := (·.1)) hm
  have nx : D ≠ l := fun e => h.nD (by rw [e]; exact ml)
  have nd := h.nd
  have nD := h.nD
  rw [List.map_append, List.map_cons] at nd nD
  have nA : l ∉ A.map (·.1) := fun m => (List.nodup_append.mp nd).2.2 l m l List.mem_cons_self rfl
  refine ⟨?_, fun x m => ?_, by rw [List.map_append, List.map_cons]; exact nd, by rw [List.map_append, List.map_cons]; exact nD⟩
  · rw [ofL_upd (vs := vs) (ds := ds) nA, upd_comm nx.symm]
    refine h.hs.set (o := .lst vs) ?_
    rw [upd_ne nx.symm]
    exact ofL_mem h.nd hm
  · rcases List.mem_append.mp m with m | m
    · exact h.rep x (List.mem_append_left _ m)
    · rcases List.mem_cons.mp m with m | m
      · rw [m]; exact r
      · exact h.rep x (List.mem_append_right _ (List.mem_cons_of_mem _ m))
theorem OwnX.putAt (h : OwnX S G0 H0 D o L G H) {k : Nat} (e : L[k]? = some (l, vs, ds)) (r : Reps G vs' ds') : OwnX S G0 H0 D o (L.set k (l, vs', ds')) G (upd H l (.lst vs')) := by
  rw [set_split e]
  rw [split_at e] at h
  exact h.put r
theorem OwnX.repAt (h : OwnX S G0 H0 D o L G H) {k : Nat} (e : L[k]? = some (l, vs, ds)) : Reps G vs ds := h.rep _ (List.mem_of_getElem? e)
/-- the first list changes no more -/
theorem OwnX.fin (h : OwnX S G0 H0 D o ((l, vs, ds) :: L) G H) : OwnX S G0 H0 D o L (upd G l (.lst vs)) H ∧ Rep (upd G l (.lst vs)) (.ref l) (.lst ds) ∧ Same G (upd G l (.lst vs)) := by
  have nx : D ≠ l := fun e => h.nD (by rw [e]; exact List.mem_cons_self)
  have ml : upd (ofL ((l, vs, ds) :: L)) D o l = some (.lst vs) := by
    rw [upd_ne nx.symm]
    exact ofL_mem (x := (l, vs, ds)) h.nd List.mem_cons_self
  have q := h.hs.frz ml
  have nd2 := List.nodup_cons.mp h.nd
  have sm : Same G (upd G l (.lst vs)) := same_new (h.hs.m l (.lst vs) ml).2.1
  refine ⟨⟨q.less fun a w e => ?_, fun x m => (h.rep x (List.mem_cons_of_mem _ m)).mono sm, nd2.2, fun m => h.nD (List.mem_cons_of_mem _ m)⟩, .lst upd_same ((h.rep _ List.mem_cons_self).mono sm), sm⟩
  by_cases ea : a = D
  · rw [ea, upd_same] at e
    rw [ea]
    refine era_of ?_ nx
    rw [upd_same]
    exact e
  · rw [upd_ne ea] at e
    have ne : a ≠ l := fun z => nd2.1 (by rw [← z]; exact ofL_some e)
    refine era_of ?_ ne
    rw [upd_ne ea]
    show (if a = l then some (HO.lst vs) else ofL L a) = some w
    rw [if_neg ne]
    exact e
theorem OwnX.finAll : ∀ {A : OwnL} {G : Hp}, OwnX S G0 H0 D o (A ++ L) G H → ∃ G', Same G G' ∧ OwnX S G0 H0 D o L G' H ∧ ∀ x ∈ A, Rep G' (.ref x.1) (.lst x.2.2)
  | [], G, h => ⟨G, Same.refl G, h, fun _ m => by cases m⟩
  | (l, vs, ds) :: A, G, h => by
    obtain ⟨h1, r1, s1⟩ := OwnX.fin (l := l) (vs := vs) (ds := ds) (L := A ++ L) h
    obtain ⟨G', s2, h2, r2⟩ := h1.finAll
    exact ⟨G', s1.trans s2, h2, fun x m => (List.mem_cons.mp m).elim (fun e => by rw [e]; exact r1.mono s2) (r2 x)⟩
/-- what D holds is data now -/
theorem OwnX.own (h : OwnX S G0 H0 D (.lst vs) L G H) (r : Reps G vs ds) : Own S G0 H0 ((D, vs, ds) :: L) G H :=
  ⟨h.hs, fun x m => (List.mem_cons.mp m).elim (fun e => by rw [e]; exact r) (h.rep x), List.nodup_cons.mpr ⟨h.nD, h.nd⟩⟩
theorem OwnX.aft (h : OwnX S G0 H0 D o L G H) (h0 : Wd S G0 H0) : Aft S G0 H0 H := h.hs.aft h0
end
/-- rows, each a Rep, as one list of refs -/
theorem reps_rows {G : Hp} : ∀ {A : OwnL}, (∀ x ∈ A, Rep G (.ref x.1) (.lst x.2.2)) → Reps G (A.map fun x => .ref x.1) (A.map fun x => .lst x.2.2)
  | [], _ => .nil
  | x :: A, h => .cons (h x List.mem_cons_self) (reps_rows fun y m => h y (List.mem_cons_of_mem _ m))
theorem Rep.lst_inv {G : Hp} {v : V} {ds : List D} (h : Rep G v (.lst ds)) : ∃ a vs, v = .ref a ∧ G a = some (.lst vs) ∧ Reps G vs ds := by
  cases h with
  | lst h r => exact ⟨_, _, rfl, h, r⟩
theorem Rep.tup_inv {G : Hp} {v : V} {ds : List D} (h : Rep G v (.tup ds)) : ∃ a vs, v = .ref a ∧ G a = some (.tup vs) ∧ Reps G vs ds := by
  cases h with
  | tup h r => exact ⟨_, _, rfl, h, r⟩
theorem Rep.str_inv {G : Hp} {v : V} {x : Str} (h : Rep G v (.str x)) : v = .str x := by
  cases h
  rfl
theorem Rep.int_inv {G : Hp} {v : V} {x : Int} (h : Rep G v (.int x)) : v = .int x := by
  cases h
  rfl
theorem Rep.non_inv {G : Hp} {v : V} (h : Rep G v .non) : v = .non := by
  cases h
  rfl
/-- the parts of a reader as they stand -/
theorem Rep.pt_inv {G : Hp} {v : V} {p : Pt} (h : Rep G v (dPt p)) : ∃ (a m f : Addr) (mvs fvs : List V), v = .ref a ∧ G a = some (.tup [.str p.rd, .str p.wr, .str p.first, .ref m, .ref f]) ∧
    G m = some (.lst mvs) ∧ Reps G mvs (p.mv.map dRow) ∧ G f = some (.lst fvs) ∧ Reps G fvs (p.fi.map dFin) := by
  obtain ⟨a, vs, rfl, ha, r⟩ := h.tup_inv
  cases r with
  | cons h1 r => cases r with
    | cons h2 r => cases r with
      | cons h3 r => cases r with
        | cons h4 r => cases r with
          | cons h5 r =>
            cases r
            obtain ⟨m, mvs, rfl, hm, rm⟩ := h4.lst_inv
            obtain ⟨f, fvs, rfl, hf, rf⟩ := h5.lst_inv
            rw [h1.str_inv, h2.str_inv, h3.str_inv] at ha
            exact ⟨a, m, f, mvs, fvs, rfl, ha, hm, rm, hf, rf⟩
/-- a move as it stands -/
theorem Rep.mv_inv {G : Hp} {v : V} {m : Mv} (h : Rep G v (dMv m)) : (m = none ∧ v = .non) ∨ ∃ a y t, m = some (y, t) ∧ v = .ref a ∧ G a = some (.tup [.str y, .int (t : Nat)]) := by
  cases m with
  | none => exact .inl ⟨rfl, h.non_inv⟩
  | some x =>
    obtain ⟨y, t⟩ := x
    obtain ⟨a, vs, rfl, ha, r⟩ := Rep.tup_inv (ds := [.str y, .int t]) h
    cases r with
    | cons h1 r => cases r with
      | cons h2 r =>
        cases r
        rw [h1.str_inv, h2.int_inv] at ha
        exact .inr ⟨a, y, t, rfl, rfl, ha⟩
theorem Rep.fin_inv {G : Hp} {v : V} {f : Option Str} (h : Rep G v (dFin f)) : (f = none ∧ v = .non) ∨ ∃ y, f = some y ∧ v = .str y := by
  cases f with
  | none => exact .inl ⟨rfl, h.non_inv⟩
  | some y => exact .inr ⟨y, rfl, Rep.str_inv h⟩
theorem Rep.fin_ (G : Hp) (f : Option Str) : ∃ v, Rep G v (dFin f) := by
  cases f with
  | none => exact ⟨.non, .non⟩
  | some y => exact ⟨.str y, .str y⟩
end Lag

/-! Lag, part G: readers as objects; rows and finals that are read. -/
namespace Lag
open PySem PySem.Spec PyProof.Rows L2
/-! ### fields of an instance -/
theorem putF_nil (f : Str) (v : V) : putF f v [] = [(f, v)] := rfl
theorem putF_ne {f g : Str} (h : g ≠ f) (v u : V) (r : List (Str × V)) : putF f v ((g, u) :: r) = (g, u) :: putF f v r := if_neg h
theorem look_eq (f : Str) (v : V) (r : List (Str × V)) : ((f, v) :: r).lookup f = some v := by simp [List.lookup]
theorem look_ne {f g : Str} (h : f ≠ g) (v : V) (r : List (Str × V)) : ((g, v) :: r).lookup f = r.lookup f := by
  have e : (f == g) = false := by simpa using h
  simp [List.lookup, e]
abbrev nR : Str := "kept_read"
abbrev nW : Str := "kept_write"
abbrev nF : Str := "kept_first"
abbrev nM : Str := "kept_moves"
abbrev nE : Str := "kept_finals"
theorem n_ne : nR ≠ nW ∧ nR ≠ nF ∧ nR ≠ nM ∧ nR ≠ nE ∧ nW ≠ nF ∧ nW ≠ nM ∧ nW ≠ nE ∧ nF ≠ nM ∧ nF ≠ nE ∧ nM ≠ nE := by decide +kernel
def rdF (p : Pt) (m f : V) : List (Str × V) := [(nR, .str p.rd), (nW, .str p.wr), (nF, .str p.first), (nM, m), (nE, f)]
theorem rdF_put (p : Pt) (m f : V) : putF nE f (putF nM m (putF nF (.str p.first) (putF nW (.str p.wr) (putF nR (.str p.rd) [])))) = rdF p m f := by
  obtain ⟨h1, h2, h3, h4, h5, h6, h7, h8, h9, h10⟩ := n_ne
  rw [putF_nil, putF_ne h1, putF_nil, putF_ne h2, putF_ne h5, putF_nil, putF_ne h3, putF_ne h6, putF_ne h8, putF_nil, putF_ne h4, putF_ne h7, putF_ne h9, putF_ne h10, putF_nil]
  rfl
theorem rdF_R (p : Pt) (m f : V) : (rdF p m f).lookup nR = some (.str p.rd) := look_eq _ _ _
theorem rdF_W (p : Pt) (m f : V) : (rdF p m f).lookup nW = some (.str p.wr) := by
  obtain ⟨h1, h2, h3, h4, h5, h6, h7, h8, h9, h10⟩ := n_ne
  unfold rdF
  rw [look_ne h1.symm, look_eq]
theorem rdF_F (p : Pt) (m f : V) : (rdF p m f).lookup nF = some (.str p.first) := by
  obtain ⟨h1, h2, h3, h4, h5, h6, h7, h8, h9, h10⟩ := n_ne
  unfold rdF
  rw [look_ne h2.symm, look_ne h5.symm, look_eq]
theorem rdF_M (p : Pt) (m f : V) : (rdF p m f).lookup nM = some m := by
  obtain ⟨h1, h2, h3, h4, h5, h6, h7, h8, h9, h10⟩ := n_ne
  unfold rdF
  rw [look_ne h3.symm, look_ne h6.symm, look_ne h8.symm, look_eq]
theorem rdF_E (p : Pt) (m f : V) : (rdF p m f).lookup nE = some f := by
  obtain ⟨h1, h2, h3, h4, h5, h6, h7, h8, h9, h10⟩ := n_ne
  unfold rdF
  rw [look_ne h4.symm, look_ne h7.symm, look_ne h9.symm, look_ne h10.symm, look_eq]
/-- a Reader stands at v -/
def RdAt (G : Hp) (C : Addr) (v : V) (p : Pt) : Prop := ∃ (x dx : Addr) (m f : V), v = .ref x ∧ G x = some (.ins C dx (rdF p m f)) ∧ G dx = some (.own x) ∧ Rep G m (dMoves p.mv) ∧ Rep G f (dFins p.fi) ∧ OkPt 400 p
theorem RdAt.mono {G G' : Hp} {C : Addr} {v : V} {p : Pt} (s : Same G G') (h : RdAt G C v p) : RdAt G' C v p := by
  obtain ⟨x, dx, m, f, e, h1, h2, h3, h4, h5⟩ := h
  exact ⟨x, dx, m, f, e, s _ _ h1, s _ _ h2, h3.mono s, h4.mono s, h5⟩
/-! ### lists that are read -/
def RowsIn (K : PySem.W.Frag) (G H : Hp) (m : Addr) (rows : List (List Mv)) : Prop :=
  ∃ mvs : List V, SqL K H m mvs ∧ mvs.length = rows.length ∧ ∀ (i : Nat) (v : V), mvs[i]? = some v → ∃ (r : Addr) (rvs : List V) (row : List Mv), v = .ref r ∧ rows[i]? = some row ∧ SqL K H r rvs ∧ Reps G rvs (row.map dMv)
def FinsIn (K : PySem.W.Frag) (G H : Hp) (f : Addr) (fi : List (Option Str)) : Prop := ∃ fvs : List V, SqL K H f fvs ∧ Reps G fvs (fi.map dFin)
theorem RowsIn.up {K : PySem.W.Frag} {G G' H H' : Hp} {m : Addr} {rows : List (List Mv)} (h : RowsIn K G H m rows) (s : Same H H') (g : Same G G') : RowsIn K G' H' m rows := by
  obtain ⟨mvs, h1, h2, h3⟩ := h
  refine ⟨mvs, s.seq h1, h2, fun i v e => ?_⟩
  obtain ⟨r, rvs, row, a, b, c, d⟩ := h3 i v e
  exact ⟨r, rvs, row, a, b, s.seq c, d.mono g⟩
theorem FinsIn.up {K : PySem.W.Frag} {G G' H H' : Hp} {f : Addr} {fi : List (Option Str)} (h : FinsIn K G H f fi) (s : Same H H') (g : Same G G') : FinsIn K G' H' f fi := by
  obtain ⟨fvs, h1, h2⟩ := h
  exact ⟨fvs, s.seq h1, h2.mono g⟩
/-- data, read as rows -/
theorem RowsIn.of {K : PySem.W.Frag} {G H : Hp} (s : Same G H) {v : V} {rows : List (List Mv)} (h : Rep G v (dMoves rows)) : ∃ m, v = .ref m ∧ RowsIn K G H m rows := by
  obtain ⟨m, mvs, rfl, hm, r⟩ := Rep.lst_inv (ds := rows.map dRow) h
  refine ⟨m, rfl, mvs, SqL.of (s _ _ hm), ?_, fun i v e => ?_⟩
  · have := r.length
    rwa [List.length_map] at this
  · obtain ⟨row, e1, e2⟩ := r.mapAt e
    obtain ⟨a, rvs, rfl, ha, rr⟩ := Rep.lst_inv (ds := row.map dMv) e2
    exact ⟨a, rvs, row, rfl, e1, SqL.of (s _ _ ha), rr⟩
theorem FinsIn.of {K : PySem.W.Frag} {G H : Hp} (s : Same G H) {v : V} {fi : List (Option Str)} (h : Rep G v (dFins fi)) : ∃ f, v = .ref f ∧ FinsIn K G H f fi := by
  obtain ⟨f, fvs, rfl, hf, r⟩ := Rep.lst_inv (ds := fi.map dFin) h
  exact ⟨f, rfl, fvs, SqL.of (s _ _ hf), r⟩
/-! ### isinstance of lists -/
theorem tyx_sql {K : PySem.W.Frag} {H : Hp} {a : Addr} {xs : List V} (h : SqL K H a xs) : TyX K H (.ref a) (.type "list") := by
  rcases h with (h | ⟨o, h⟩) | ⟨o, its, n, h1, h2, _⟩
  · exact .base (.lst h)
  · exact .base (.frz h)
  · exact .kList h1 h2
theorem kit_lt {K : PySem.W.Frag} (d : D) : PySem.W.kitAny K (.type d.ty) [.type "list", .type "tuple"] = some (isi d.ty "list" || isi d.ty "tuple") := by
  have h1 := kit_of2 (K := K) d (b := "list") (by decide)
  have h2 := kit_of2 (K := K) d (b := "tuple") (by decide)
  refine kitAny_cons h1 (fun e => ?_) (fun e => by rw [e] <;> rfl)
  rw [e, Bool.false_or]
  refine kitAny_cons h2 (fun e => by rw [e]; exact kitAny_nil) (fun e => e)
theorem kit_l {K : PySem.W.Frag} : PySem.W.kitAny K (.type "list") [.type "list", .type "tuple"] = some true := by
  have h := kit_lt (K := K) (.lst [])
  have e : isi (D.lst []).ty "list" = true := (isi_list _).mpr ⟨_, rfl⟩
  rw [e, Bool.true_or] at h
  exact h
/-- the extra own thing changes no more -/
theorem OwnX.finX {S : Sr} {G0 H0 G H : Hp} {D : Addr} {o : HO} {L : OwnL} (h : OwnX S G0 H0 D o L G H) : Own S G0 H0 L (upd G D o) H ∧ Same G (upd G D o) := by
  have sm : Same G (upd G D o) := same_new (h.hs.m D o upd_same).2.1
  refine ⟨⟨(h.hs.frz upd_same).less fun a u e => ?_, fun x m => (h.rep x m).mono sm, h.nd⟩, sm⟩
  have ne : a ≠ D := fun z => h.nD (by rw [← z]; exact ofL_some e)
  refine era_of ?_ ne
  rw [upd_ne ne]
  exact e
end Lag

/-! Lag, part H: [list(row) for row in rows], as data or as own rows. -/
namespace Lag
open PySem PySem.Spec PyProof.Rows L2
abbrev refs (A : OwnL) : List V := A.map fun x => .ref x.1
abbrev datas (A : OwnL) : List (List D) := A.map fun x => x.2.2
theorem same_own {H H' : Hp} {D : Addr} {o : HO} (h : Same H H') (e : H D = none) : Same H (upd H' D o) := fun b u z => by
  rw [upd_ne (ne_of_none z e)]
  exact h b u z
section
variable {K : PySem.W.Frag} {S : Sr} {G0 H0 G H : Hp} {L : OwnL} {m D : Addr} {rows : List (List Mv)} {j : Nat} {vs : List Nat} {σ : L2.St} {Qd : Hp → Prop}
theorem lc_rows (ho : Own S G0 H0 L G H) (hin : RowsIn K G H m rows) (hl : rows.length ≤ 90000) (hD : H D = none)
    (hw : ∀ x, wipe ((wipe σ vs).set j (some x)) vs = wipe σ vs) (hv : ∀ x, ((wipe σ vs).set j (some x))[j]? = some (some x))
    (fin : ∀ G' ws H', Own S G0 H0 ((D, ws, rows.map dRow) :: L) G' H' → Same G G' → Same H H' → Qd H') :
    ∃ W : Nat → Nat → Hp → Prop, (∃ n, W 0 n (upd H D (.lst []))) ∧ ∀ i n H1, W i n H1 →
      ((Itl K m).stop i H1 ∧ Qd H1) ∨ ((Itl K m).go i H1 ∧ ∃ Nx : Hp → Prop, (∀ H', Nx H' → ∃ n', n' < n ∧ W (i + 1) n' H') ∧ ∀ x H', (Itl K m).yld i H1 x H' → gName j x (wipe σ vs) H' fun σ2 H2 => wipe σ2 vs = wipe σ vs ∧ tYes σ2 H2 fun b H3 =>
        if b = true then tCB (rListOf K) (tCons (tVar j) tNil) σ2 H3 fun y H4 => ∃ acc, H4 D = some (.lst acc) ∧ acc.length < sizeLine ∧ Nx (upd H4 D (.lst (acc ++ [y]))) else Nx H3) := by
  obtain ⟨mvs, hm, lm, hat⟩ := hin
  refine lc_it (walk_list (xs := mvs)) (fun i H' => ∃ (G' : Hp) (ws : List V), Own S G0 H0 ((D, ws, (rows.take i).map dRow) :: L) G' H' ∧ Same G G' ∧ Same H H') ?_ ?_ ?_ ?_
  · exact ⟨G, [], ho.newL hD .nil, Same.refl G, same_new hD⟩
  · rintro i H' _ ⟨G', ws, h, _, sh⟩
    exact sh.seq hm
  · rintro i x H2 H3 hi ⟨G', ws, h, sg, sh⟩ ⟨rfl, hx⟩
    obtain ⟨r, rvs, row, rfl, hrow, hr, rr⟩ := hat i x hx
    refine ⟨hw _, _, hv _, r, rvs, rfl, .inl (sh.seq hr), fun l hl2 => ?_⟩
    have h5 := h.newG (o := .lst rvs) hl2
    have lv : ws.length = ((rows.take i).map dRow).length := (h.rep _ List.mem_cons_self).length
    have h6 := h5.app (A := []) (v := .ref l) (d := dRow row) (.lst upd_same ((rr.mono sg).mono (same_new (h.hs.fG hl2))))
    refine ⟨ws, h5.at_ (x := (D, ws, (rows.take i).map dRow)) List.mem_cons_self, ?_, upd G' l (.lst rvs), ws ++ [V.ref l], ?_, sg.trans (same_new (h.hs.fG hl2)), ?_⟩
    · rw [lv, List.length_map]
      have := List.length_take_le' i rows
      exact small_lt (by omega)
    · rw [take_snoc hrow, List.map_append]
      exact h6
    · exact same_own (sh.trans (same_new hl2)) hD
  · rintro H2 ⟨G', ws, h, sg, sh⟩
    rw [lm, List.take_length] at h
    exact fin G' ws H2 h sg sh
theorem lc_rowsM (ho : Own S G0 H0 L G H) (hin : RowsIn K G H m rows) (hl : rows.length ≤ 90000) (hD : H D = none)
    (hw : ∀ x, wipe ((wipe σ vs).set j (some x)) vs = wipe σ vs) (hv : ∀ x, ((wipe σ vs).set j (some x))[j]? = some (some x))
    (fin : ∀ A H', OwnX S G0 H0 D (.lst (refs A)) (A ++ L) G H' → A.length = rows.length → datas A = (rows.map fun r => r.map dMv) → Same H H' → Qd H') :
    ∃ W : Nat → Nat → Hp → Prop, (∃ n, W 0 n (upd H D (.lst []))) ∧ ∀ i n H1, W i n H1 →
      ((Itl K m).stop i H1 ∧ Qd H1) ∨ ((Itl K m).go i H1 ∧ ∃ Nx : Hp → Prop, (∀ H', Nx H' → ∃ n', n' < n ∧ W (i + 1) n' H') ∧ ∀ x H', (Itl K m).yld i H1 x H' → gName j x (wipe σ vs) H' fun σ2 H2 => wipe σ2 vs = wipe σ vs ∧ tYes σ2 H2 fun b H3 =>
        if b = true then tCB (rListOf K) (tCons (tVar j) tNil) σ2 H3 fun y H4 => ∃ acc, H4 D = some (.lst acc) ∧ acc.length < sizeLine ∧ Nx (upd H4 D (.lst (acc ++ [y]))) else Nx H3) := by
  obtain ⟨mvs, hm, lm, hat⟩ := hin
  refine lc_it (walk_list (xs := mvs)) (fun i H' => ∃ A : OwnL, OwnX S G0 H0 D (.lst (refs A)) (A ++ L) G H' ∧ A.length = i ∧ datas A = ((rows.take i).map fun r => r.map dMv) ∧ Same H H') ?_ ?_ ?_ ?_
  · exact ⟨[], ho.newX hD, rfl, rfl, same_new hD⟩
  · rintro i H' _ ⟨A, hA, _, _, sh⟩
    exact sh.seq hm
  · rintro i x H1 H2 hi ⟨A, hA, e1, e2, sh⟩ ⟨rfl, hx⟩
    obtain ⟨q, rvs, row, rfl, hrow, hq, rr⟩ := hat i x hx
    refine ⟨hw _, _, hv _, q, rvs, rfl, .inl (sh.seq hq), fun l hl2 => ?_⟩
    refine ⟨refs A, ?_, by rw [List.length_map]; exact small_lt (by omega), A ++ [(l, rvs, row.map dMv)], ?_, by rw [List.length_append, e1]; rfl, ?_, same_own (sh.trans (same_new hl2)) hD⟩
    · rw [upd_ne (hA.new_nX hl2)]
      exact hA.atX
    · have h2 := (hA.newL hl2 rr).setX (o' := .lst (refs A ++ [.ref l]))
      have pm : ((l, rvs, row.map dMv) :: (A ++ L)).Perm ((A ++ [(l, rvs, row.map dMv)]) ++ L) := by
        rw [List.append_assoc]
        exact List.perm_middle.symm
      have e3 : (refs (A ++ [(l, rvs, row.map dMv)])) = refs A ++ [.ref l] := by simp [refs]
      rw [e3]
      refine ⟨h2.hs.less fun b o e => ?_, fun y my => h2.rep y (pm.mem_iff.mpr my), (pm.map _).nodup_iff.mp h2.nd, fun z => h2.nD ((pm.map _).mem_iff.mpr z)⟩
      by_cases eb : b = D
      · rw [eb, upd_same] at e ⊢
        exact e
      · rw [upd_ne eb] at e ⊢
        obtain ⟨y, my, rfl⟩ := List.mem_map.mp (ofL_some e)
        rw [ofL_mem ((pm.map _).nodup_iff.mp h2.nd) my] at e
        rw [← e]
        exact ofL_mem h2.nd (pm.mem_iff.mpr my)
    · show (A ++ [(l, rvs, row.map dMv)]).map (fun x => x.2.2) = _
      rw [List.map_append, take_snoc hrow, List.map_append]
      show datas A ++ _ = _
      rw [e2]
      rfl
  · rintro H1 ⟨A, hA, e1, e2, sh⟩
    rw [lm, List.take_length] at e2
    exact fin A H1 hA (e1.trans lm) e2 sh
end
end Lag

/-! Lag, part I: what can be reached, in plain terms: a search with flags and a list of what waits. -/
namespace Lag
open PySem PySem.Spec PyProof.Rows L2
inductive Rch (E : Nat → Nat → Prop) (P : Nat → Prop) : Nat → Prop
  | base {k : Nat} (h : P k) : Rch E P k
  | step {i j : Nat} (h : Rch E P i) (e : E i j) : Rch E P j
theorem Rch.sub {E : Nat → Nat → Prop} {P S : Nat → Prop} (h1 : ∀ k, P k → S k) (h2 : ∀ i j, S i → E i j → S j) {k : Nat} (h : Rch E P k) : S k := by
  induction h with
  | base h => exact h1 _ h
  | step _ e ih => exact h2 _ _ ih e
theorem Rch.mono {E E' : Nat → Nat → Prop} {P P' : Nat → Prop} (h1 : ∀ k, P k → P' k) (h2 : ∀ i j, E i j → E' i j) {k : Nat} (h : Rch E P k) : Rch E' P' k := by
  induction h with
  | base h => exact .base (h1 _ h)
  | step _ e ih => exact ih.step (h2 _ _ e)
/-- flags that tell P -/
def Tells (bs : List Bool) (P : Nat → Prop) : Prop := ∀ k, bs[k]? = some true ↔ P k
/-- a search: flags bs, waiting ws, and what is looked at just now -/
structure Dfs (E : Nat → Nat → Prop) (P : Nat → Prop) (n : Nat) (bs : List Bool) (ws : List Nat) (mk : Nat → Prop) : Prop where
  len : bs.length = n
  base : ∀ k, P k → bs[k]? = some true
  sound : ∀ k, bs[k]? = some true → Rch E P k
  lst : ∀ k ∈ ws, bs[k]? = some true
  clo : ∀ i j, bs[i]? = some true → i ∉ ws → ¬ mk i → E i j → bs[j]? = some true
theorem set_true {bs : List Bool} {t k : Nat} (h : bs[k]? = some true) : (bs.set t true)[k]? = some true := by
  by_cases e : t = k
  · subst e
    exact List.getElem?_set_self (lt_get h)
  · rw [List.getElem?_set_ne e]
    exact h
theorem set_back {bs : List Bool} {t k : Nat} (h : (bs.set t true)[k]? = some true) : k = t ∨ bs[k]? = some true := by
  by_cases e : t = k
  · exact .inl e.symm
  · rw [List.getElem?_set_ne e] at h
    exact .inr h
theorem count_set_true {bs : List Bool} {t : Nat} (h : bs[t]? = some false) : (bs.set t true).count false + 1 = bs.count false := by
  obtain ⟨h1, h2⟩ := List.getElem?_eq_some_iff.mp h
  rw [List.count_set h1, h2]
  have h3 : 0 < bs.count false := List.count_pos_iff.mpr (List.mem_of_getElem? h)
  simp
  omega
section
variable {E : Nat → Nat → Prop} {P : Nat → Prop} {n : Nat} {bs : List Bool} {ws : List Nat} {mk mk' : Nat → Prop}
theorem Dfs.push (d : Dfs E P n bs ws mk) {t : Nat} (h : bs[t]? = some false) (r : Rch E P t) : Dfs E P n (bs.set t true) (ws ++ [t]) mk where
  len := by rw [List.length_set]; exact d.len
  base := fun k p => set_true (d.base k p)
  sound := fun k e => (set_back e).elim (fun z => by rw [z]; exact r) (d.sound k)
  lst := fun k m => (List.mem_append.mp m).elim (fun m => set_true (d.lst k m)) fun m => by
    rw [List.mem_singleton.mp m]
    exact List.getElem?_set_self (lt_get h)
  clo := fun i j e m nm ed => set_true (d.clo i j ((set_back e).elim (fun z => (m (List.mem_append_right _ (by rw [z]; exact List.mem_singleton.mpr rfl))).elim) id) (fun z => m (List.mem_append_left _ z)) nm ed)
/-- i no more waits: it is looked at -/
theorem Dfs.pop {ws' : List Nat} {i : Nat} (d : Dfs E P n bs ws mk) (h : ∀ k ∈ ws', k ∈ ws) (h2 : ∀ k ∈ ws, k ∈ ws' ∨ k = i) (hm : ∀ k, mk k → False) : Dfs E P n bs ws' (· = i) where
  len := d.len
  base := d.base
  sound := d.sound
  lst := fun k m => d.lst k (h k m)
  clo := fun a b e m nm ed => d.clo a b e (fun z => (h2 a z).elim m nm) (hm a) ed
theorem Dfs.done {i : Nat} (d : Dfs E P n bs ws (· = i)) (h : ∀ j, E i j → bs[j]? = some true) : Dfs E P n bs ws fun _ => False where
  len := d.len
  base := d.base
  sound := d.sound
  lst := d.lst
  clo := fun a b e m _ ed => by
    by_cases z : a = i
    · rw [z] at ed
      exact h b ed
    · exact d.clo a b e m z ed
theorem Dfs.end_ (d : Dfs E P n bs [] fun _ => False) : Tells bs (Rch E P) := fun k =>
  ⟨d.sound k, fun r => r.sub (S := fun k => bs[k]? = some true) d.base fun i j e ed => d.clo i j e List.not_mem_nil (fun z => z) ed⟩
end
theorem Tells.at_ {bs : List Bool} {P : Nat → Prop} (h : Tells bs P) {k : Nat} {b : Bool} (e : bs[k]? = some b) : b = true ↔ P k := by
  rw [← h k, e]
  exact ⟨fun z => by rw [z], fun z => Option.some.inj z⟩
theorem tells_eq {bs cs : List Bool} {P : Nat → Prop} (h1 : Tells bs P) (h2 : Tells cs P) (l : bs.length = cs.length) : bs = cs := by
  refine List.ext_getElem? fun k => ?_
  by_cases e : k < bs.length
  · obtain ⟨b, hb⟩ := get_lt e
    obtain ⟨c, hc⟩ := get_lt (xs := cs) (i := k) (by omega)
    rw [hb, hc]
    have q := (h1.at_ hb).trans (h2.at_ hc).symm
    cases b <;> cases c <;> simp_all
  · rw [List.getElem?_eq_none (by omega), List.getElem?_eq_none (by omega)]
/-! ### a reader's states -/
def Goes (rows : List (List Mv)) (i j : Nat) : Prop := ∃ row y, rows[i]? = some row ∧ some (y, j) ∈ row
def Ends (fi : List (Option Str)) (k : Nat) : Prop := ∃ y, fi[k]? = some (some y)
/-- some word leads to k -/
def Rea (rows : List (List Mv)) (k : Nat) : Prop := Rch (Goes rows) (· = 0) k
/-- from k some word leads to an end -/
def Lea (rows : List (List Mv)) (fi : List (Option Str)) (k : Nat) : Prop := Rch (fun i j => Goes rows j i) (Ends fi) k
open Classical in
noncomputable def usefulTo (p : Pt) (n : Nat) : List Nat := (List.range n).filter fun k => decide (Rea p.mv k ∧ Lea p.mv p.fi k)
noncomputable def useful (p : Pt) : List Nat := usefulTo p p.mv.length
noncomputable def dUse (p : Pt) : D := .lst ((useful p).map fun k : Nat => D.int (k : Int))
theorem goes_lt {n : Nat} {p : Pt} (h : OkPt n p) {i j : Nat} (g : Goes p.mv i j) : i < p.mv.length ∧ j < p.mv.length := by
  obtain ⟨row, y, e, m⟩ := g
  exact ⟨lt_get e, ((h.rows row (List.mem_of_getElem? e)).2 _ m y j rfl).2⟩
open Classical in
theorem use_snoc {bs es : List Bool} {P Q : Nat → Prop} (h1 : Tells bs P) (h2 : Tells es Q) {k : Nat} {b c : Bool} (e1 : bs[k]? = some b) (e2 : es[k]? = some c) :
    ((List.range (k + 1)).filter fun k => decide (P k ∧ Q k)) = ((List.range k).filter fun k => decide (P k ∧ Q k)) ++ (if (b && c) = true then [k] else []) := by
  rw [List.range_succ, List.filter_append]
  congr 1
  have q1 := h1.at_ e1
  have q2 := h2.at_ e2
  by_cases hb : b = true
  · by_cases hc : c = true
    · rw [hb, hc]
      simp [q1.mp hb, q2.mp hc]
    · have : ¬ Q k := fun z => hc (q2.mpr z)
      simp [this, hc]
  · have : ¬ P k := fun z => hb (q1.mpr z)
    simp [this, hb]
theorem usefulTo_snoc (p : Pt) {bs es : List Bool} (h1 : Tells bs (Rea p.mv)) (h2 : Tells es (Lea p.mv p.fi)) {k : Nat} {b c : Bool} (e1 : bs[k]? = some b) (e2 : es[k]? = some c) :
    usefulTo p (k + 1) = usefulTo p k ++ (if (b && c) = true then [k] else []) := use_snoc h1 h2 e1 e2
theorem usefulTo_len (p : Pt) (n : Nat) : (usefulTo p n).length ≤ n := by
  unfold usefulTo
  exact Nat.le_trans (List.length_filter_le _ _) (by rw [List.length_range]; exact Nat.le_refl _)
theorem any_true {α : Type} {l : List α} {f : α → Bool} : l.any f = true ↔ ∃ x ∈ l, f x = true := List.any_eq_true
/-! ### one round after the other -/
/-- flags of what leads to an end, as long as a round changes something -/
structure Fix (E : Nat → Nat → Prop) (P : Nat → Prop) (n : Nat) (bs : List Bool) : Prop where
  len : bs.length = n
  base : ∀ k, P k → bs[k]? = some true
  sound : ∀ k, bs[k]? = some true → Rch E P k
theorem Fix.tells {E : Nat → Nat → Prop} {P : Nat → Prop} {n : Nat} {bs : List Bool} (d : Fix E P n bs) (h : ∀ i j, bs[i]? = some true → E i j → bs[j]? = some true) : Tells bs (Rch E P) := fun k =>
  ⟨d.sound k, fun r => r.sub (S := fun k => bs[k]? = some true) d.base h⟩
theorem Fix.push {E : Nat → Nat → Prop} {P : Nat → Prop} {n : Nat} {bs : List Bool} (d : Fix E P n bs) {t : Nat} (r : Rch E P t) : Fix E P n (bs.set t true) where
  len := by rw [List.length_set]; exact d.len
  base := fun k p => set_true (d.base k p)
  sound := fun k e => (set_back e).elim (fun z => by rw [z]; exact r) (d.sound k)
/-! ### numbers in lists; an own list put anew -/
abbrev vN (k : Nat) : V := .int (k : Int)
abbrev dN (k : Nat) : D := .int (k : Int)
theorem Reps.nats {G : Hp} : ∀ ks : List Nat, Reps G (ks.map vN) (ks.map dN)
  | [] => .nil
  | k :: ks => .cons (.int _) (Reps.nats ks)
theorem ixN_nat {n t : Nat} (h : t < n) : ixN n (t : Int) = some t := by
  rw [ixN_int (by omega) (by omega)]
  congr 1
theorem Own.putE {S : Sr} {G0 H0 G H : Hp} {A B : OwnL} {l : Addr} {vs vs' u : List V} {ds ds' : List D} (h : Own S G0 H0 (A ++ (l, vs, ds) :: B) G H) (r : Reps G vs' ds') (e : u = vs') : Own S G0 H0 (A ++ (l, vs', ds') :: B) G (upd H l (.lst u)) := by
  rw [e]
  exact h.put r
theorem len_of {G : Hp} {α : Type} {f : α → D} {vs : List V} {xs : List α} (r : Reps G vs (xs.map f)) : vs.length = xs.length := by
  have := r.length
  rwa [List.length_map] at this
end Lag

/-! Lag, part J: kinds of data, their depth, the lists in them; own lists given up. -/
namespace Lag
open PySem PySem.Spec PyProof.Rows L2
def D.kB : D → Bool
  | .bl _ => true
  | _ => false
def D.kI : D → Bool
  | .bl _ => true
  | .int _ => true
  | _ => false
def D.kS : D → Bool
  | .str _ => true
  | _ => false
def D.kL : D → Bool
  | .lst _ => true
  | _ => false
def D.kT : D → Bool
  | .tup _ => true
  | _ => false
theorem isi_k (d : D) : isi d.ty "bool" = d.kB ∧ isi d.ty "int" = d.kI ∧ isi d.ty "str" = d.kS ∧ isi d.ty "list" = d.kL ∧ isi d.ty "tuple" = d.kT := by
  have f : isi "NoneType" "bool" = false ∧ isi "NoneType" "int" = false ∧ isi "NoneType" "str" = false ∧ isi "NoneType" "list" = false ∧ isi "NoneType" "tuple" = false ∧
    isi "bool" "bool" = true ∧ isi "bool" "int" = true ∧ isi "bool" "str" = false ∧ isi "bool" "list" = false ∧ isi "bool" "tuple" = false ∧
    isi "int" "bool" = false ∧ isi "int" "int" = true ∧ isi "int" "str" = false ∧ isi "int" "list" = false ∧ isi "int" "tuple" = false ∧
    isi "str" "bool" = false ∧ isi "str" "int" = false ∧ isi "str" "str" = true ∧ isi "str" "list" = false ∧ isi "str" "tuple" = false ∧
    isi "list" "bool" = false ∧ isi "list" "int" = false ∧ isi "list" "str" = false ∧ isi "list" "list" = true ∧ isi "list" "tuple" = false ∧
    isi "tuple" "bool" = false ∧ isi "tuple" "int" = false ∧ isi "tuple" "str" = false ∧ isi "tuple" "list" = false ∧ isi "tuple" "tuple" = true := by decide +kernel
  obtain ⟨a1, a2, a3, a4, a5, b1, b2, b3, b4, b5, c1, c2, c3, c4, c5, d1, d2, d3, d4, d5, e1, e2, e3, e4, e5, f1, f2, f3, f4, f5⟩ := f
  cases d with
  | non => exact ⟨a1, a2, a3, a4, a5⟩
  | bl b => exact ⟨b1, b2, b3, b4, b5⟩
  | int i => exact ⟨c1, c2, c3, c4, c5⟩
  | str x => exact ⟨d1, d2, d3, d4, d5⟩
  | lst l => exact ⟨e1, e2, e3, e4, e5⟩
  | tup l => exact ⟨f1, f2, f3, f4, f5⟩
theorem isiB (d : D) : isi d.ty "bool" = d.kB := (isi_k d).1
theorem isiI (d : D) : isi d.ty "int" = d.kI := (isi_k d).2.1
theorem isiS (d : D) : isi d.ty "str" = d.kS := (isi_k d).2.2.1
theorem isiL (d : D) : isi d.ty "list" = d.kL := (isi_k d).2.2.2.1
theorem isiT (d : D) : isi d.ty "tuple" = d.kT := (isi_k d).2.2.2.2
theorem Rep.bl_inv {G : Hp} {v : V} {b : Bool} (h : Rep G v (.bl b)) : v = .bl b := by
  cases h
  rfl
theorem Rep.non_of {G : Hp} {d : D} (h : Rep G .non d) : d = .non := by
  cases h
  rfl
theorem Rep.notNon {G : Hp} {v : V} {d : D} (h : Rep G v d) (n : d ≠ .non) : v ≠ .non := fun e => n (by subst e; exact h.non_of)
/-- depth at most n, no list too long -/
def Fit : Nat → D → Prop
  | 0, .lst _ => False
  | 0, .tup _ => False
  | n + 1, .lst ds => ds.length ≤ 100000 ∧ ∀ d ∈ ds, Fit n d
  | n + 1, .tup ds => ds.length ≤ 100000 ∧ ∀ d ∈ ds, Fit n d
  | _, .non => True
  | _, .bl _ => True
  | _, .int _ => True
  | _, .str _ => True
theorem Fit.lst_inv {n : Nat} {ds : List D} (h : Fit n (.lst ds)) : ∃ m, n = m + 1 ∧ ds.length ≤ 100000 ∧ ∀ d ∈ ds, Fit m d := by
  cases n with
  | zero => exact h.elim
  | succ m => exact ⟨m, rfl, h⟩
theorem Fit.tup_inv {n : Nat} {ds : List D} (h : Fit n (.tup ds)) : ∃ m, n = m + 1 ∧ ds.length ≤ 100000 ∧ ∀ d ∈ ds, Fit m d := by
  cases n with
  | zero => exact h.elim
  | succ m => exact ⟨m, rfl, h⟩
theorem Fit.atom {n : Nat} {d : D} (h1 : d.kL = false) (h2 : d.kT = false) : Fit n d := by
  cases d with
  | lst l => cases h1
  | tup l => cases h2
  | _ => cases n <;> trivial
theorem Fit.up : ∀ {n m : Nat} {d : D}, Fit n d → n ≤ m → Fit m d
  | n, m, .non, _, _ => .atom rfl rfl
  | n, m, .bl _, _, _ => .atom rfl rfl
  | n, m, .int _, _, _ => .atom rfl rfl
  | n, m, .str _, _, _ => .atom rfl rfl
  | 0, m, .lst _, h, _ => h.elim
  | 0, m, .tup _, h, _ => h.elim
  | n + 1, 0, .lst _, _, k => (Nat.not_succ_le_zero n k).elim
  | n + 1, 0, .tup _, _, k => (Nat.not_succ_le_zero n k).elim
  | n + 1, m + 1, .lst ds, h, k => ⟨h.1, fun d m => (h.2 d m).up (Nat.le_of_succ_le_succ k)⟩
  | n + 1, m + 1, .tup ds, h, k => ⟨h.1, fun d m => (h.2 d m).up (Nat.le_of_succ_le_succ k)⟩
theorem fit_mv (m : Mv) : Fit 1 (dMv m) := by
  cases m with
  | none => exact trivial
  | some x => exact ⟨by show 2 ≤ 100000; decide, fun d h => by
      rcases List.mem_cons.mp h with rfl | h
      · exact .atom rfl rfl
      · rw [List.mem_singleton.mp h]
        exact .atom rfl rfl⟩
theorem fit_fins {f : List (Option Str)} (h : f.length ≤ 100000) : Fit 1 (dFins f) := ⟨by rw [List.length_map]; exact h, fun d m => by
  obtain ⟨x, _, rfl⟩ := List.mem_map.mp m
  cases x <;> exact .atom rfl rfl⟩
theorem fit_pt {n : Nat} {p : Pt} (h : OkPt n p) : Fit 4 (dPt p) := by
  have h1 := h.most
  have h2 := h.ard.most
  have h3 := h.fins
  have hm : Fit 3 (dMoves p.mv) := ⟨by rw [List.length_map]; omega, fun d m => by
    obtain ⟨r, mr, rfl⟩ := List.mem_map.mp m
    have := (h.rows r mr).1
    refine ⟨by rw [List.length_map]; omega, fun d m => ?_⟩
    obtain ⟨x, _, rfl⟩ := List.mem_map.mp m
    exact fit_mv x⟩
  refine ⟨by show 5 ≤ 100000; decide, fun d m => ?_⟩
  rcases List.mem_cons.mp m with rfl | m
  · exact .atom rfl rfl
  rcases List.mem_cons.mp m with rfl | m
  · exact .atom rfl rfl
  rcases List.mem_cons.mp m with rfl | m
  · exact .atom rfl rfl
  rcases List.mem_cons.mp m with rfl | m
  · exact hm
  rw [List.mem_singleton.mp m]
  exact (fit_fins (by omega)).up (by decide)
theorem fit_nats {ks : List Nat} (h : ks.length ≤ 100000) : Fit 1 (.lst (ks.map dN)) := ⟨by rw [List.length_map]; exact h, fun d m => by
  obtain ⟨x, _, rfl⟩ := List.mem_map.mp m
  exact .atom rfl rfl⟩
/-! ### lists and tuples alike -/
section
variable {K : PySem.W.Frag} {H : Hp} {a : Addr} {xs : List V}
theorem seq_len (h : SqL K H a xs ∨ SqT K H a xs) : LenV K (.ref a) H xs.length := h.imp (fun h => ⟨_, h, rfl⟩) fun h => ⟨_, h, rfl⟩
theorem seq_ix {i : Int} {v : V} {Q : VK} (h : SqL K H a xs ∨ SqT K H a xs) (e : atI xs i = some v) (q : Q v H) : rIx K (.ref a) (.int i) H Q :=
  h.elim (fun h => .inl ⟨a, xs, i, v, rfl, rfl, h, e, q⟩) fun h => .inr (.inl ⟨a, xs, i, v, rfl, rfl, h, e, q⟩)
end
/-- in e, which holds a list or a tuple -/
def iSeq (K : PySem.W.Frag) (tl : TE) : TI := fun σ H R => iList K tl σ H R ∨ iTup K tl σ H R
theorem pi_seqK {X : Cx} (K : PySem.W.Frag) {tg l : Expr} {tl : TE} (h : X.K = K) (hl : PE X l tl) : PI X tg l (iSeq K tl) := by
  subst h
  exact ⟨fun pins s σ H R I h => h.elim (fun h => (pi_list hl).run pins s σ H R I h) fun h => (pi_tup hl).run pins s σ H R I h⟩
/-! ### the lists in a value -/
mutual
inductive Lsts (G : Hp) : V → List Addr → Prop
  | non : Lsts G .non []
  | bl (b : Bool) : Lsts G (.bl b) []
  | int (i : Int) : Lsts G (.int i) []
  | str (x : Str) : Lsts G (.str x) []
  | lst {a : Addr} {vs : List V} {ls : List Addr} (h : G a = some (.lst vs)) (hl : vs.length ≤ 100000) (r : Lstss G vs ls) : Lsts G (.ref a) (ls ++ [a])
  | tup {a : Addr} {vs : List V} {ls : List Addr} (h : G a = some (.tup vs)) (hl : vs.length ≤ 100000) (r : Lstss G vs ls) : Lsts G (.ref a) ls
inductive Lstss (G : Hp) : List V → List Addr → Prop
  | nil : Lstss G [] []
  | cons {v : V} {l : List Addr} {vs : List V} {ls : List Addr} (h : Lsts G v l) (r : Lstss G vs ls) : Lstss G (v :: vs) (l ++ ls)
end
theorem Lstss.cut {G : Hp} : ∀ {vs : List V} {ls : List Addr} (i : Nat) {v : V}, Lstss G vs ls → vs[i]? = some v → ∃ l1 l2 l3, ls = l1 ++ (l2 ++ l3) ∧ Lstss G (vs.take i) l1 ∧ Lsts G v l2 ∧ Lstss G (vs.drop (i + 1)) l3
  | [], _, _, _, .nil, e => by simp at e
  | v :: vs, _, 0, w, .cons h r, e => by
    simp at e
    subst e
    exact ⟨[], _, _, rfl, .nil, h, r⟩
  | v :: vs, _, i + 1, w, .cons (l := l) h r, e => by
    obtain ⟨l1, l2, l3, e1, h1, h2, h3⟩ := Lstss.cut i r (by simpa using e)
    exact ⟨l ++ l1, l2, l3, by rw [e1, List.append_assoc], .cons h h1, h2, h3⟩
theorem Lstss.ints {G : Hp} : ∀ ks : List Nat, Lstss G (ks.map vN) []
  | [] => .nil
  | k :: ks => Lstss.cons (l := []) (.int _) (Lstss.ints ks)
mutual
theorem Lsts.mem {G : Hp} : ∀ {v : V} {ls : List Addr}, Lsts G v ls → ∀ a ∈ ls, ∃ vs, G a = some (.lst vs) ∧ vs.length ≤ 100000
  | _, _, .non, a, m => by cases m
  | _, _, .bl _, a, m => by cases m
  | _, _, .int _, a, m => by cases m
  | _, _, .str _, a, m => by cases m
  | _, _, .lst h hl r, a, m => (List.mem_append.mp m).elim (r.mem a) fun m => by
    rw [List.mem_singleton.mp m]
    exact ⟨_, h, hl⟩
  | _, _, .tup h hl r, a, m => r.mem a m
theorem Lstss.mem {G : Hp} : ∀ {vs : List V} {ls : List Addr}, Lstss G vs ls → ∀ a ∈ ls, ∃ vs, G a = some (.lst vs) ∧ vs.length ≤ 100000
  | _, _, .nil, a, m => by cases m
  | _, _, .cons h r, a, m => (List.mem_append.mp m).elim (h.mem a) (r.mem a)
end
section
variable {G : Hp}
theorem Lsts.lst_inv {a : Addr} {vs : List V} {ls : List Addr} (h : Lsts G (.ref a) ls) (e : G a = some (.lst vs)) : ∃ l0, ls = l0 ++ [a] ∧ Lstss G vs l0 := by
  cases h with
  | lst h hl r =>
    rw [e] at h
    cases h
    exact ⟨_, rfl, r⟩
  | tup h hl r => rw [e] at h; cases h
theorem Lsts.tup_inv {a : Addr} {vs : List V} {ls : List Addr} (h : Lsts G (.ref a) ls) (e : G a = some (.tup vs)) : ∃ l0, ls = l0 ∧ Lstss G vs l0 := by
  cases h with
  | lst h hl r => rw [e] at h; cases h
  | tup h hl r =>
    rw [e] at h
    cases h
    exact ⟨_, rfl, r⟩
theorem Lsts.atom {v : V} {d : D} {ls : List Addr} (h : Lsts G v ls) (r : Rep G v d) (h1 : d.kL = false) (h2 : d.kT = false) : ls = [] := by
  cases d with
  | non => obtain rfl := r.non_inv; cases h; rfl
  | bl b => obtain rfl := r.bl_inv; cases h; rfl
  | int i => obtain rfl := r.int_inv; cases h; rfl
  | str x => obtain rfl := r.str_inv; cases h; rfl
  | lst l => cases h1
  | tup l => cases h2
theorem Lstss.cons_inv {vs : List V} {ls : List Addr} {i : Nat} {x : V} (h : Lstss G (vs.drop i) ls) (e : vs[i]? = some x) : ∃ a b, ls = a ++ b ∧ Lsts G x a ∧ Lstss G (vs.drop (i + 1)) b := by
  obtain ⟨h1, h2⟩ := List.getElem?_eq_some_iff.mp e
  rw [List.drop_eq_getElem_cons h1, h2] at h
  cases h with
  | cons h r => exact ⟨_, _, rfl, h, r⟩
end
/-! ### own lists given up -/
/-- outside ls nothing is changed -/
def Save (ls : List Addr) (H H' : Hp) : Prop := ∀ a o, H a = some o → a ∉ ls → H' a = some o
theorem Hs.give {S : Sr} {G0 H0 G M M' H H' : Hp} {ls : List Addr} (h : Hs S G0 H0 G M H) (s : Save ls H H') (hl : ∀ a ∈ ls, ∃ o, M a = some o) (k : ∀ a o, M' a = some o → M a = some o ∧ a ∉ ls) : Hs S G0 H0 G M' H' := by
  have ng : ∀ a o, G a = some o → a ∉ ls := fun a o z m => by
    obtain ⟨u, e⟩ := hl a m
    rw [(h.m a u e).2.1] at z
    cases z
  have n0 : ∀ a o, H0 a = some o → a ∉ ls := fun a o z m => by
    obtain ⟨u, e⟩ := hl a m
    rw [(h.m a u e).2.2] at z
    cases z
  have ns : ∀ a, S.is a → a ∉ ls := fun a q m => by
    obtain ⟨u, e⟩ := hl a m
    exact h.nS e q
  refine ⟨⟨fun a o z => s a o (h.g z) (ng a o z), h.wd.sto.up (fun _ _ z => z) (fun a q => (h.wd.s q).1) fun a u q z => s a u z (ns a q)⟩, h.g0, h.fr, fun b u e n => s b u (h.but b u e n) (n0 b u e), fun b u e => ?_, h.s0, fun b u e => ?_⟩
  · obtain ⟨u1, z⟩ := h.keep b u e
    exact ⟨u1, s b u1 z (n0 b u e)⟩
  · obtain ⟨e1, e2⟩ := k b u e
    obtain ⟨h1, h2, h3⟩ := h.m b u e1
    exact ⟨s b u h1 e2, h2, h3⟩
theorem Own.give {S : Sr} {G0 H0 G H H' : Hp} {A B : OwnL} (h : Own S G0 H0 (A ++ B) G H) (s : Save (A.map (·.1)) H H') : Own S G0 H0 B G H' := by
  have nd := h.nd
  rw [List.map_append] at nd
  obtain ⟨_, ndB, dis⟩ := List.nodup_append.mp nd
  refine ⟨h.hs.give s (fun a m => ?_) fun a o e => ?_, fun x m => h.rep x (List.mem_append_right _ m), ndB⟩
  · obtain ⟨x, mx, rfl⟩ := List.mem_map.mp m
    exact ⟨_, ofL_mem h.nd (List.mem_append_left _ mx)⟩
  · obtain ⟨x, mx, rfl⟩ := List.mem_map.mp (ofL_some e)
    rw [ofL_mem ndB mx] at e
    rw [← e]
    exact ⟨ofL_mem h.nd (List.mem_append_right _ mx), fun z => dis x.1 z x.1 (List.mem_map_of_mem mx) rfl⟩
/-- a call that leaves the store alone -/
theorem Own.call0 {S : Sr} {G0 H0 G H H' : Hp} {L : OwnL} (h : Own S G0 H0 L G H) (a : Aft .no G H H') : Own S G0 H0 L (grow G H H') H' := h.call (h.wd.same fun b o z => a.but b o z fun q => q)
theorem Aft.same0 {G H H' : Hp} (a : Aft .no G H H') : Same H H' := fun b o z => a.but b o z fun q => q
/-! ### lists of numbers, of lists of numbers -/
def dNs (ks : List Nat) : D := .lst (ks.map dN)
theorem Reps.natsOf {G : Hp} : ∀ {vs : List V} {ks : List Nat}, Reps G vs (ks.map dN) → vs = ks.map vN
  | _, [], r => by cases r; rfl
  | _, k :: ks, r => by
    cases r with
    | cons h r => rw [h.int_inv, r.natsOf]; rfl
theorem Rep.nats_inv {G : Hp} {v : V} {ks : List Nat} (h : Rep G v (dNs ks)) : ∃ a, v = .ref a ∧ G a = some (.lst (ks.map vN)) := by
  obtain ⟨a, vs, rfl, ha, r⟩ := Rep.lst_inv (ds := ks.map dN) h
  rw [r.natsOf] at ha
  exact ⟨a, rfl, ha⟩
theorem inV_nat {k : Nat} {ks : List Nat} : inV (.int (k : Int)) (ks.map vN) = true ↔ k ∈ ks := by
  unfold inV
  rw [List.any_eq_true]
  constructor
  · rintro ⟨x, mx, e⟩
    obtain ⟨j, mj, rfl⟩ := List.mem_map.mp mx
    have e2 : ((j : Int) == (k : Int)) = true := e
    have : j = k := by
      have := eq_of_beq e2
      omega
    rw [← this]
    exact mj
  · intro m
    refine ⟨vN k, List.mem_map_of_mem m, ?_⟩
    show ((k : Int) == (k : Int)) = true
    exact beq_self_eq_true _
/-- the edges of a list of rows -/
def In2 (rows : List (List Nat)) (i j : Nat) : Prop := ∃ row, rows[i]? = some row ∧ j ∈ row
/-- where a row leads -/
def aims (r : List Mv) : List Nat := r.filterMap fun m => m.map (·.2)
theorem mem_aims {r : List Mv} {j : Nat} : j ∈ aims r ↔ ∃ y, some (y, j) ∈ r := by
  unfold aims
  rw [List.mem_filterMap]
  constructor
  · rintro ⟨m, mm, e⟩
    cases m with
    | none => cases e
    | some x =>
      obtain ⟨y, t⟩ := x
      cases e
      exact ⟨y, mm⟩
  · rintro ⟨y, m⟩
    exact ⟨_, m, rfl⟩
theorem in2_aims {rows : List (List Mv)} {i j : Nat} : In2 (rows.map aims) i j ↔ Goes rows i j := by
  unfold In2 Goes
  constructor
  · rintro ⟨row, e, m⟩
    rw [List.getElem?_map] at e
    cases q : rows[i]? with
    | none => rw [q] at e; cases e
    | some r =>
      rw [q] at e
      cases e
      obtain ⟨y, my⟩ := mem_aims.mp m
      exact ⟨r, y, rfl, my⟩
  · rintro ⟨r, y, e, m⟩
    exact ⟨aims r, by rw [List.getElem?_map, e]; rfl, mem_aims.mpr ⟨y, m⟩⟩
theorem Tells.iff {bs : List Bool} {P Q : Nat → Prop} (h : Tells bs P) (e : ∀ k, P k ↔ Q k) : Tells bs Q := fun k => (h k).trans (e k)
theorem Rch.iff {E E' : Nat → Nat → Prop} {P P' : Nat → Prop} (h1 : ∀ k, P k ↔ P' k) (h2 : ∀ i j, E i j ↔ E' i j) (k : Nat) : Rch E P k ↔ Rch E' P' k :=
  ⟨Rch.mono (fun k => (h1 k).mp) fun i j => (h2 i j).mp, Rch.mono (fun k => (h1 k).mpr) fun i j => (h2 i j).mpr⟩
theorem below_len : ∀ {n : Nat} {td : List Nat}, td.Nodup → (∀ k ∈ td, k < n) → td.length ≤ n
  | 0, td, _, h => by
    cases td with
    | nil => exact Nat.le_refl 0
    | cons k l => exact absurd (h k List.mem_cons_self) (Nat.not_lt_zero k)
  | n + 1, td, nd, h => by
    have h1 := below_len (n := n) (nd.erase n) fun k m => by
      have := h k (List.mem_of_mem_erase m)
      have ne := ((nd.mem_erase_iff).mp m).1
      omega
    by_cases m : n ∈ td
    · rw [List.length_erase_of_mem m] at h1
      omega
    · rw [List.erase_of_not_mem m] at h1
      omega
theorem count_le {bs : List Bool} {td : List Nat} (nd : td.Nodup) (h : ∀ k ∈ td, k < bs.length) : td.length ≤ bs.length := below_len nd h
theorem aims_snoc {row : List Mv} {j : Nat} {m : Mv} (h : row[j]? = some m) : aims (row.take (j + 1)) = aims (row.take j) ++ (match m with | none => [] | some x => [x.2]) := by
  unfold aims
  rw [take_snoc h, List.filterMap_append]
  cases m <;> rfl
theorem aims_len (row : List Mv) : (aims row).length ≤ row.length := List.length_filterMap_le _ _
theorem in2_set {rows : List (List Nat)} {t i : Nat} {b : List Nat} (h : rows[t]? = some b) (x y : Nat) : In2 (rows.set t (b ++ [i])) x y ↔ In2 rows x y ∨ (x = t ∧ y = i) := by
  unfold In2
  by_cases e : t = x
  · subst e
    constructor
    · rintro ⟨row, e1, m⟩
      rw [List.getElem?_set_self (lt_get h)] at e1
      cases e1
      rcases List.mem_append.mp m with m | m
      · exact .inl ⟨b, h, m⟩
      · exact .inr ⟨rfl, List.mem_singleton.mp m⟩
    · intro z
      refine ⟨b ++ [i], List.getElem?_set_self (lt_get h), ?_⟩
      rcases z with ⟨row, e1, m⟩ | ⟨_, e2⟩
      · rw [h] at e1
        cases e1
        exact List.mem_append_left _ m
      · rw [e2]
        exact List.mem_append_right _ (List.mem_singleton.mpr rfl)
  · rw [List.getElem?_set_ne e]
    exact ⟨.inl, fun z => z.elim id fun z => (e z.1.symm).elim⟩
end Lag

/-! Lag, part K: own things with one more, at calls; the beginning of a law. -/
namespace Lag
open PySem PySem.Spec PyProof.Rows L2
section
variable {S : Sr} {G0 H0 G H H' : Hp} {p l D : Addr} {o : HO} {L A B : OwnL} {vs : List V} {ds : List Lag.D}
theorem OwnX.call0 (h : OwnX S G0 H0 D o L G H) (a : Aft .no G H H') : OwnX S G0 H0 D o L (grow G H H') H' := h.call (h.wd.same fun b o z => a.but b o z fun q => q)
/-- a call has made the list p, which will change -/
theorem OwnX.callL (h : OwnX S G0 H0 D o L G H) (a : Aft .no G H H') (e : H p = none) (e' : H' p = some (.lst vs)) (r : Reps (era (grow G H H') p) vs ds) : OwnX S G0 H0 D o ((p, vs, ds) :: L) (era (grow G H H') p) H' := by
  have nx := h.new_nX e
  have a2 : Aft S G H H' := h.wd.same fun b o z => a.but b o z fun q => q
  refine ⟨?_, fun x m => (List.mem_cons.mp m).elim (fun z => by rw [z]; exact r) fun m => ?_, List.nodup_cons.mpr ⟨h.new_ne e, h.nd⟩, fun m => (List.mem_cons.mp m).elim nx h.nD⟩
  · have q := h.hs.callM a2 e e'
    rw [upd_comm nx] at q
    exact q
  · exact (h.rep x m).mono fun b u z => era_of (grow_old z) (ne_of_none z (h.hs.fG e))
theorem OwnX.tail {x : Addr × List V × List Lag.D} (h : OwnX S G0 H0 D o (x :: L) G H) : OwnX S G0 H0 D o L G H := by
  have nd2 := List.nodup_cons.mp h.nd
  refine ⟨h.hs.less fun a u e => ?_, fun y m => h.rep y (List.mem_cons_of_mem _ m), nd2.2, fun m => h.nD (List.mem_cons_of_mem _ m)⟩
  by_cases ea : a = D
  · rw [ea, upd_same] at e ⊢
    exact e
  · rw [upd_ne ea] at e ⊢
    obtain ⟨y, my, rfl⟩ := List.mem_map.mp (ofL_some e)
    rw [ofL_mem nd2.2 my] at e
    rw [← e]
    exact ofL_mem h.nd (List.mem_cons_of_mem _ my)
/-- the first list is given away -/
theorem OwnX.give {x : Addr × List V × List Lag.D} (h : OwnX S G0 H0 D o (x :: L) G H) (s : Save [x.1] H H') : OwnX S G0 H0 D o L G H' := by
  have nd2 := List.nodup_cons.mp h.nd
  have nx : D ≠ x.1 := fun e => h.nD (by rw [e]; exact List.mem_cons_self)
  refine ⟨h.hs.give s (fun a m => ?_) fun a u e => ?_, fun y m => h.rep y (List.mem_cons_of_mem _ m), nd2.2, fun m => h.nD (List.mem_cons_of_mem _ m)⟩
  · rw [List.mem_singleton.mp m]
    refine ⟨.lst x.2.1, ?_⟩
    rw [upd_ne nx.symm]
    exact ofL_mem h.nd List.mem_cons_self
  · have ne : a ∉ [x.1] ∧ (upd (ofL (x :: L)) D o) a = some u := by
      by_cases ea : a = D
      · rw [ea, upd_same] at e ⊢
        exact ⟨fun z => nx (List.mem_singleton.mp z), e⟩
      · rw [upd_ne ea] at e ⊢
        obtain ⟨y, my, rfl⟩ := List.mem_map.mp (ofL_some e)
        refine ⟨fun z => nd2.1 (by show x.1 ∈ _; rw [← List.mem_singleton.mp z]; exact List.mem_map_of_mem my), ?_⟩
        rw [ofL_mem nd2.2 my] at e
        rw [← e]
        exact ofL_mem h.nd (List.mem_cons_of_mem _ my)
    exact ⟨ne.2, ne.1⟩
theorem OwnX.all (h : OwnX S G0 H0 D o L G H) : Own S G0 H0 [] G H := ⟨h.hs.less fun a u e => (by cases e), fun _ m => (by cases m), List.Pairwise.nil⟩
theorem same_era (h : Same G H') (e : G p = none) : Same G (era H' p) := fun b u z => era_of (h b u z) (ne_of_none z e)
end
/-- the store stands apart, all else stays -/
theorem wd_begin {H : Hp} {s c : Addr} {ns : List Int} {e : Int} (hs : H s = some (.lst [.ref c, .int 0, .int 0, .int 0, .int e])) (hc : H c = some (.lst (ns.map V.int))) (ne : c ≠ s) (hl : ns.length ≤ 63) : Wd (.at_ s c ns) (era H s) H :=
  ⟨fun a o z => (era_ne z).2, by unfold era; rw [if_pos rfl], era_of hc ne, hl, 0, 0, 0, e, Int.le_refl 0, hs⟩
/-- a def's promise, its data kept in sight -/
theorem okf_of {P : Program} {w : World} {K : PySem.W.Frag} {mg : Str → Option Value} {base : Heap} {x qual : Str} {params : Arguments} {body : List Stmt} {scope : Scope} {f : Addr} {fd : FuncData} {N ps : List Str} {k : Nat} {sp : Sp} (F : FunD K x qual params body scope [] [] f fd)
    (S : FnScope N ps scope) (len : ∀ vs H Q E, sp vs H Q E → vs.length = ps.length)
    (hbody : ∀ (cdv : Value) (A : Around) (outer : List Env) (s : Shared) (H : Hp) (vs : List V) (Q : VK) (E : XK), Room k (A.deeper (envOfC qual scope s.heap.objs.size f cdv)) → sp vs H Q E →
      ∃ t, PSs (cxOf CX0 P w K mg base N qual scope f cdv A outer s H E).nox body t ∧ t { nx := fun _ H' => Q .non H', rt := Q } (start N vs) H) : FnOk P w K mg base CX0 (k + 1) f fd ps sp :=
  F.ok S len fun cdv A outer s H vs Q E hr h => by
    obtain ⟨t, h1, h2⟩ := hbody cdv A outer s H vs Q E hr h
    exact ⟨t, h1.nox, h2⟩
end Lag

namespace Lag
open PySem PySem.Spec PyProof.Rows L2
def top (i : Nat) : Stmt := PySem.Challenge.pw_lagbound_k64_useful_states_of_readers.main.body.getD i (.Pass ⟨0, 0, 0, 0⟩)
def D_consists_of : He.DefD := ⟨("consists_of", none), "consists_of", "consists_of", defArgs (top 13), defBody (top 13), defScope (top 13), [], []⟩
def D_is_letters : He.DefD := ⟨("is_letters", none), "is_letters", "is_letters", defArgs (top 14), defBody (top 14), defScope (top 14), [], []⟩
def D_is_word : He.DefD := ⟨("is_word", none), "is_word", "is_word", defArgs (top 15), defBody (top 15), defScope (top 15), [], []⟩
def D_check_letters : He.DefD := ⟨("check_letters", none), "check_letters", "check_letters", defArgs (top 17), defBody (top 17), defScope (top 17), [], []⟩
def D_ending_states : He.DefD := ⟨("ending_states", none), "ending_states", "ending_states", defArgs (top 20), defBody (top 20), defScope (top 20), [], []⟩
def D_is_written : He.DefD := ⟨("is_written", none), "is_written", "is_written", defArgs (top 24), defBody (top 24), defScope (top 24), [], []⟩
def D_is_state : He.DefD := ⟨("is_state", none), "is_state", "is_state", defArgs (top 25), defBody (top 25), defScope (top 25), [], []⟩
def D_is_move : He.DefD := ⟨("is_move", none), "is_move", "is_move", defArgs (top 26), defBody (top 26), defScope (top 26), [], []⟩
def D_is_row : He.DefD := ⟨("is_row", none), "is_row", "is_row", defArgs (top 27), defBody (top 27), defScope (top 27), [], []⟩
def D_check_moves : He.DefD := ⟨("check_moves", none), "check_moves", "check_moves", defArgs (top 28), defBody (top 28), defScope (top 28), [], []⟩
def D_check_finals : He.DefD := ⟨("check_finals", none), "check_finals", "check_finals", defArgs (top 29), defBody (top 29), defScope (top 29), [], []⟩
def D_reached_states : He.DefD := ⟨("reached_states", none), "reached_states", "reached_states", defArgs (top 39), defBody (top 39), defScope (top 39), [], []⟩
def D_useful_reader_states : He.DefD := ⟨("useful_reader_states", none), "useful_reader_states", "useful_reader_states", defArgs (top 40), defBody (top 40), defScope (top 40), [], []⟩
def D_law_mix : He.DefD := ⟨("_law_mix", none), "_law_mix", "_law_mix", defArgs (top 42), defBody (top 42), defScope (top 42), [], []⟩
def D_law_store : He.DefD := ⟨("_law_store", none), "_law_store", "_law_store", defArgs (top 43), defBody (top 43), defScope (top 43), [], []⟩
def D_law_take : He.DefD := ⟨("_law_take", none), "_law_take", "_law_take", defArgs (top 44), defBody (top 44), defScope (top 44), [], []⟩
def D_law_pick : He.DefD := ⟨("_law_pick", none), "_law_pick", "_law_pick", defArgs (top 45), defBody (top 45), defScope (top 45), [], []⟩
def D_law_between : He.DefD := ⟨("_law_between", none), "_law_between", "_law_between", defArgs (top 46), defBody (top 46), defScope (top 46), [], []⟩
def D_law_letters : He.DefD := ⟨("_law_letters", none), "_law_letters", "_law_letters", defArgs (top 47), defBody (top 47), defScope (top 47), [], []⟩
def D_law_word : He.DefD := ⟨("_law_word", none), "_law_word", "_law_word", defArgs (top 48), defBody (top 48), defScope (top 48), [], []⟩
def D_law_unlike_word : He.DefD := ⟨("_law_unlike_word", none), "_law_unlike_word", "_law_unlike_word", defArgs (top 49), defBody (top 49), defScope (top 49), [], []⟩
def D_law_reader : He.DefD := ⟨("_law_reader", none), "_law_reader", "_law_reader", defArgs (top 50), defBody (top 50), defScope (top 50), [], []⟩
def D_law_near_reader : He.DefD := ⟨("_law_near_reader", none), "_law_near_reader", "_law_near_reader", defArgs (top 51), defBody (top 51), defScope (top 51), [], []⟩
def D_law_wide_reader : He.DefD := ⟨("_law_wide_reader", none), "_law_wide_reader", "_law_wide_reader", defArgs (top 52), defBody (top 52), defScope (top 52), [], []⟩
def D_law_same : He.DefD := ⟨("_law_same", none), "_law_same", "_law_same", defArgs (top 53), defBody (top 53), defScope (top 53), [], []⟩
def D_law_copy : He.DefD := ⟨("_law_copy", none), "_law_copy", "_law_copy", defArgs (top 54), defBody (top 54), defScope (top 54), [], []⟩
def D_law_lists : He.DefD := ⟨("_law_lists", none), "_law_lists", "_law_lists", defArgs (top 55), defBody (top 55), defScope (top 55), [], []⟩
def D_law_wreck : He.DefD := ⟨("_law_wreck", none), "_law_wreck", "_law_wreck", defArgs (top 56), defBody (top 56), defScope (top 56), [], []⟩
def D_law_reader_of : He.DefD := ⟨("_law_reader_of", none), "_law_reader_of", "_law_reader_of", defArgs (top 57), defBody (top 57), defScope (top 57), [], []⟩
def D_law_reader_parts_of : He.DefD := ⟨("_law_reader_parts_of", none), "_law_reader_parts_of", "_law_reader_parts_of", defArgs (top 58), defBody (top 58), defScope (top 58), [], []⟩
def D_law_reached : He.DefD := ⟨("_law_reached", none), "_law_reached", "_law_reached", defArgs (top 59), defBody (top 59), defScope (top 59), [], []⟩
def D_law_due : He.DefD := ⟨("_law_due", none), "_law_due", "_law_due", defArgs (top 60), defBody (top 60), defScope (top 60), [], []⟩
def D_law_drawn : He.DefD := ⟨("_law_drawn", none), "_law_drawn", "_law_drawn", defArgs (top 61), defBody (top 61), defScope (top 61), [], []⟩
def D_law : He.DefD := ⟨("law", none), "law", "law", defArgs (top 62), defBody (top 62), defScope (top 62), [], []⟩
def D_Reader_init : He.DefD := ⟨("Reader", some "__init__"), "__init__", "Reader.__init__", defArgs (inClass (top 32) 0), defBody (inClass (top 32) 0), defScope (inClass (top 32) 0), [], []⟩
def P_Reader_read : GetD := ⟨"Reader", "read", "Reader.read", defArgs (inClass (top 32) 1), defBody (inClass (top 32) 1), defScope (inClass (top 32) 1)⟩
def P_Reader_write : GetD := ⟨"Reader", "write", "Reader.write", defArgs (inClass (top 32) 2), defBody (inClass (top 32) 2), defScope (inClass (top 32) 2)⟩
def P_Reader_first : GetD := ⟨"Reader", "first", "Reader.first", defArgs (inClass (top 32) 3), defBody (inClass (top 32) 3), defScope (inClass (top 32) 3)⟩
def P_Reader_moves : GetD := ⟨"Reader", "moves", "Reader.moves", defArgs (inClass (top 32) 4), defBody (inClass (top 32) 4), defScope (inClass (top 32) 4)⟩
def P_Reader_finals : GetD := ⟨"Reader", "finals", "Reader.finals", defArgs (inClass (top 32) 5), defBody (inClass (top 32) 5), defScope (inClass (top 32) 5)⟩
def fn : List He.DefD := [D_consists_of, D_is_letters, D_is_word, D_check_letters, D_ending_states, D_is_written, D_is_state, D_is_move, D_is_row, D_check_moves, D_check_finals, D_reached_states, D_useful_reader_states, D_law_mix, D_law_store, D_law_take, D_law_pick, D_law_between, D_law_letters, D_law_word, D_law_unlike_word, D_law_reader, D_law_near_reader, D_law_wide_reader, D_law_same, D_law_copy, D_law_lists, D_law_wreck, D_law_reader_of, D_law_reader_parts_of, D_law_reached, D_law_due, D_law_drawn, D_law, D_Reader_init]
def gs : List GetD := [P_Reader_read, P_Reader_write, P_Reader_first, P_Reader_moves, P_Reader_finals]
def fa : List He.Fa := [.glo "consists_of",
  .glo "is_letters",
  .glo "is_word",
  .glo "check_letters",
  .glo "ending_states",
  .glo "is_written",
  .glo "is_state",
  .glo "is_move",
  .glo "is_row",
  .glo "check_moves",
  .glo "check_finals",
  .glo "reached_states",
  .glo "useful_reader_states",
  .glo "_law_mix",
  .glo "_law_store",
  .glo "_law_take",
  .glo "_law_pick",
  .glo "_law_between",
  .glo "_law_letters",
  .glo "_law_word",
  .glo "_law_unlike_word",
  .glo "_law_reader",
  .glo "_law_near_reader",
  .glo "_law_wide_reader",
  .glo "_law_same",
  .glo "_law_copy",
  .glo "_law_lists",
  .glo "_law_wreck",
  .glo "_law_reader_of",
  .glo "_law_reader_parts_of",
  .glo "_law_reached",
  .glo "_law_due",
  .glo "_law_drawn",
  .glo "law",
  .glo "Reader",
  .cls "Reader",
  .mkr "Reader",
  .noat "Reader" "kept_read",
  .noat "Reader" "kept_write",
  .noat "Reader" "kept_first",
  .noat "Reader" "kept_moves",
  .noat "Reader" "kept_finals",
  .free "len",
  .free "range",
  .free "isinstance",
  .free "int",
  .free "list",
  .free "tuple",
  .free "str",
  .free "bool",
  .free "max",
  .free "min",
  .free "all",
  .free "any",
  .free "enumerate",
  .str "SMALL_LETTERS" "abcdefghijklmnopqrstuvwxyz",
  .int "MOST_LETTERS" 4,
  .int "MOST_WRITTEN" 400,
  .int "MOST_STATES" 64]
/-- what the top has left -/
structure Top (K : PySem.W.Frag) (mg : Str → Option Value) : Prop where
  ex : ∃ h : Heap, K.In h ∧ h.Ns mainGlobals mg ∧ SaysP fa fn gs K
section
variable {K : PySem.W.Frag} {mg : Str → Option Value}
theorem g_consists_of (T : Top K mg) : mg "consists_of" = some (.ref (He.ga K "consists_of")) := by
  obtain ⟨h, X, G, c⟩ := T.ex
  exact He.glo_ok X G (c.d.fact 0 (f := .glo "consists_of") rfl)
theorem g_is_letters (T : Top K mg) : mg "is_letters" = some (.ref (He.ga K "is_letters")) := by
  obtain ⟨h, X, G, c⟩ := T.ex
  exact He.glo_ok X G (c.d.fact 1 (f := .glo "is_letters") rfl)
theorem g_is_word (T : Top K mg) : mg "is_word" = some (.ref (He.ga K "is_word")) := by
  obtain ⟨h, X, G, c⟩ := T.ex
  exact He.glo_ok X G (c.d.fact 2 (f := .glo "is_word") rfl)
theorem g_check_letters (T : Top K mg) : mg "check_letters" = some (.ref (He.ga K "check_letters")) := by
  obtain ⟨h, X, G, c⟩ := T.ex
  exact He.glo_ok X G (c.d.fact 3 (f := .glo "check_letters") rfl)
theorem g_ending_states (T : Top K mg) : mg "ending_states" = some (.ref (He.ga K "ending_states")) := by
  obtain ⟨h, X, G, c⟩ := T.ex
  exact He.glo_ok X G (c.d.fact 4 (f := .glo "ending_states") rfl)
theorem g_is_written (T : Top K mg) : mg "is_written" = some (.ref (He.ga K "is_written")) := by
  obtain ⟨h, X, G, c⟩ := T.ex
  exact He.glo_ok X G (c.d.fact 5 (f := .glo "is_written") rfl)
theorem g_is_state (T : Top K mg) : mg "is_state" = some (.ref (He.ga K "is_state")) := by
  obtain ⟨h, X, G, c⟩ := T.ex
  exact He.glo_ok X G (c.d.fact 6 (f := .glo "is_state") rfl)
theorem g_is_move (T : Top K mg) : mg "is_move" = some (.ref (He.ga K "is_move")) := by
  obtain ⟨h, X, G, c⟩ := T.ex
  exact He.glo_ok X G (c.d.fact 7 (f := .glo "is_move") rfl)
theorem g_is_row (T : Top K mg) : mg "is_row" = some (.ref (He.ga K "is_row")) := by
  obtain ⟨h, X, G, c⟩ := T.ex
  exact He.glo_ok X G (c.d.fact 8 (f := .glo "is_row") rfl)
theorem g_check_moves (T : Top K mg) : mg "check_moves" = some (.ref (He.ga K "check_moves")) := by
  obtain ⟨h, X, G, c⟩ := T.ex
  exact He.glo_ok X G (c.d.fact 9 (f := .glo "check_moves") rfl)
theorem g_check_finals (T : Top K mg) : mg "check_finals" = some (.ref (He.ga K "check_finals")) := by
  obtain ⟨h, X, G, c⟩ := T.ex
  exact He.glo_ok X G (c.d.fact 10 (f := .glo "check_finals") rfl)
theorem g_reached_states (T : Top K mg) : mg "reached_states" = some (.ref (He.ga K "reached_states")) := by
  obtain ⟨h, X, G, c⟩ := T.ex
  exact He.glo_ok X G (c.d.fact 11 (f := .glo "reached_states") rfl)
theorem g_useful_reader_states (T : Top K mg) : mg "useful_reader_states" = some (.ref (He.ga K "useful_reader_states")) := by
  obtain ⟨h, X, G, c⟩ := T.ex
  exact He.glo_ok X G (c.d.fact 12 (f := .glo "useful_reader_states") rfl)
theorem g_law_mix (T : Top K mg) : mg "_law_mix" = some (.ref (He.ga K "_law_mix")) := by
  obtain ⟨h, X, G, c⟩ := T.ex
  exact He.glo_ok X G (c.d.fact 13 (f := .glo "_law_mix") rfl)
theorem g_law_store (T : Top K mg) : mg "_law_store" = some (.ref (He.ga K "_law_store")) := by
  obtain ⟨h, X, G, c⟩ := T.ex
  exact He.glo_ok X G (c.d.fact 14 (f := .glo "_law_store") rfl)
theorem g_law_take (T : Top K mg) : mg "_law_take" = some (.ref (He.ga K "_law_take")) := by
  obtain ⟨h, X, G, c⟩ := T.ex
  exact He.glo_ok X G (c.d.fact 15 (f := .glo "_law_take") rfl)
theorem g_law_pick (T : Top K mg) : mg "_law_pick" = some (.ref (He.ga K "_law_pick")) := by
  obtain ⟨h, X, G, c⟩ := T.ex
  exact He.glo_ok X G (c.d.fact 16 (f := .glo "_law_pick") rfl)
theorem g_law_between (T : Top K mg) : mg "_law_between" = some (.ref (He.ga K "_law_between")) := by
  obtain ⟨h, X, G, c⟩ := T.ex
  exact He.glo_ok X G (c.d.fact 17 (f := .glo "_law_between") rfl)
theorem g_law_letters (T : Top K mg) : mg "_law_letters" = some (.ref (He.ga K "_law_letters")) := by
  obtain ⟨h, X, G, c⟩ := T.ex
  exact He.glo_ok X G (c.d.fact 18 (f := .glo "_law_letters") rfl)
theorem g_law_word (T : Top K mg) : mg "_law_word" = some (.ref (He.ga K "_law_word")) := by
  obtain ⟨h, X, G, c⟩ := T.ex
  exact He.glo_ok X G (c.d.fact 19 (f := .glo "_law_word") rfl)
theorem g_law_unlike_word (T : Top K mg) : mg "_law_unlike_word" = some (.ref (He.ga K "_law_unlike_word")) := by
  obtain ⟨h, X, G, c⟩ := T.ex
  exact He.glo_ok X G (c.d.fact 20 (f := .glo "_law_unlike_word") rfl)
theorem g_law_reader (T : Top K mg) : mg "_law_reader" = some (.ref (He.ga K "_law_reader")) := by
  obtain ⟨h, X, G, c⟩ := T.ex
  exact He.glo_ok X G (c.d.fact 21 (f := .glo "_law_reader") rfl)
theorem g_law_near_reader (T : Top K mg) : mg "_law_near_reader" = some (.ref (He.ga K "_law_near_reader")) := by
  obtain ⟨h, X, G, c⟩ := T.ex
  exact He.glo_ok X G (c.d.fact 22 (f := .glo "_law_near_reader") rfl)
theorem g_law_wide_reader (T : Top K mg) : mg "_law_wide_reader" = some (.ref (He.ga K "_law_wide_reader")) := by
  obtain ⟨h, X, G, c⟩ := T.ex
  exact He.glo_ok X G (c.d.fact 23 (f := .glo "_law_wide_reader") rfl)
theorem g_law_same (T : Top K mg) : mg "_law_same" = some (.ref (He.ga K "_law_same")) := by
  obtain ⟨h, X, G, c⟩ := T.ex
  exact He.glo_ok X G (c.d.fact 24 (f := .glo "_law_same") rfl)
theorem g_law_copy (T : Top K mg) : mg "_law_copy" = some (.ref (He.ga K "_law_copy")) := by
  obtain ⟨h, X, G, c⟩ := T.ex
  exact He.glo_ok X G (c.d.fact 25 (f := .glo "_law_copy") rfl)
theorem g_law_lists (T : Top K mg) : mg "_law_lists" = some (.ref (He.ga K "_law_lists")) := by
  obtain ⟨h, X, G, c⟩ := T.ex
  exact He.glo_ok X G (c.d.fact 26 (f := .glo "_law_lists") rfl)
theorem g_law_wreck (T : Top K mg) : mg "_law_wreck" = some (.ref (He.ga K "_law_wreck")) := by
  obtain ⟨h, X, G, c⟩ := T.ex
  exact He.glo_ok X G (c.d.fact 27 (f := .glo "_law_wreck") rfl)
theorem g_law_reader_of (T : Top K mg) : mg "_law_reader_of" = some (.ref (He.ga K "_law_reader_of")) := by
  obtain ⟨h, X, G, c⟩ := T.ex
  exact He.glo_ok X G (c.d.fact 28 (f := .glo "_law_reader_of") rfl)
theorem g_law_reader_parts_of (T : Top K mg) : mg "_law_reader_parts_of" = some (.ref (He.ga K "_law_reader_parts_of")) := by
  obtain ⟨h, X, G, c⟩ := T.ex
  exact He.glo_ok X G (c.d.fact 29 (f := .glo "_law_reader_parts_of") rfl)
theorem g_law_reached (T : Top K mg) : mg "_law_reached" = some (.ref (He.ga K "_law_reached")) := by
  obtain ⟨h, X, G, c⟩ := T.ex
  exact He.glo_ok X G (c.d.fact 30 (f := .glo "_law_reached") rfl)
theorem g_law_due (T : Top K mg) : mg "_law_due" = some (.ref (He.ga K "_law_due")) := by
  obtain ⟨h, X, G, c⟩ := T.ex
  exact He.glo_ok X G (c.d.fact 31 (f := .glo "_law_due") rfl)
theorem g_law_drawn (T : Top K mg) : mg "_law_drawn" = some (.ref (He.ga K "_law_drawn")) := by
  obtain ⟨h, X, G, c⟩ := T.ex
  exact He.glo_ok X G (c.d.fact 32 (f := .glo "_law_drawn") rfl)
theorem g_law (T : Top K mg) : mg "law" = some (.ref (He.ga K "law")) := by
  obtain ⟨h, X, G, c⟩ := T.ex
  exact He.glo_ok X G (c.d.fact 33 (f := .glo "law") rfl)
theorem g_Reader (T : Top K mg) : mg "Reader" = some (.ref (He.ga K "Reader")) := by
  obtain ⟨h, X, G, c⟩ := T.ex
  exact He.glo_ok X G (c.d.fact 34 (f := .glo "Reader") rfl)
theorem cl_Reader (T : Top K mg) : Cls K (He.ga K "Reader") := by
  obtain ⟨h, X, G, c⟩ := T.ex
  exact He.cls_ok (c.d.fact 35 (f := .cls "Reader") rfl)
theorem mk_Reader (T : Top K mg) : Mk K (He.ga K "Reader") (He.ma K (He.ga K "Reader") "__init__") := by
  obtain ⟨h, X, G, c⟩ := T.ex
  exact He.mkr_ok (c.d.fact 36 (f := .mkr "Reader") rfl)
theorem n_Reader_kept_read (T : Top K mg) : NoAttr K (He.ga K "Reader") "kept_read" := by
  obtain ⟨h, X, G, c⟩ := T.ex
  exact He.noat_ok (c.d.fact 37 (f := .noat "Reader" "kept_read") rfl)
theorem n_Reader_kept_write (T : Top K mg) : NoAttr K (He.ga K "Reader") "kept_write" := by
  obtain ⟨h, X, G, c⟩ := T.ex
  exact He.noat_ok (c.d.fact 38 (f := .noat "Reader" "kept_write") rfl)
theorem n_Reader_kept_first (T : Top K mg) : NoAttr K (He.ga K "Reader") "kept_first" := by
  obtain ⟨h, X, G, c⟩ := T.ex
  exact He.noat_ok (c.d.fact 39 (f := .noat "Reader" "kept_first") rfl)
theorem n_Reader_kept_moves (T : Top K mg) : NoAttr K (He.ga K "Reader") "kept_moves" := by
  obtain ⟨h, X, G, c⟩ := T.ex
  exact He.noat_ok (c.d.fact 40 (f := .noat "Reader" "kept_moves") rfl)
theorem n_Reader_kept_finals (T : Top K mg) : NoAttr K (He.ga K "Reader") "kept_finals" := by
  obtain ⟨h, X, G, c⟩ := T.ex
  exact He.noat_ok (c.d.fact 41 (f := .noat "Reader" "kept_finals") rfl)
theorem f_len (T : Top K mg) : mg "len" = none := by
  obtain ⟨h, X, G, c⟩ := T.ex
  exact He.free_ok X G (c.d.fact 42 (f := .free "len") rfl)
theorem f_range (T : Top K mg) : mg "range" = none := by
  obtain ⟨h, X, G, c⟩ := T.ex
  exact He.free_ok X G (c.d.fact 43 (f := .free "range") rfl)
theorem f_isinstance (T : Top K mg) : mg "isinstance" = none := by
  obtain ⟨h, X, G, c⟩ := T.ex
  exact He.free_ok X G (c.d.fact 44 (f := .free "isinstance") rfl)
theorem f_int (T : Top K mg) : mg "int" = none := by
  obtain ⟨h, X, G, c⟩ := T.ex
  exact He.free_ok X G (c.d.fact 45 (f := .free "int") rfl)
theorem f_list (T : Top K mg) : mg "list" = none := by
  obtain ⟨h, X, G, c⟩ := T.ex
  exact He.free_ok X G (c.d.fact 46 (f := .free "list") rfl)
theorem f_tuple (T : Top K mg) : mg "tuple" = none := by
  obtain ⟨h, X, G, c⟩ := T.ex
  exact He.free_ok X G (c.d.fact 47 (f := .free "tuple") rfl)
theorem f_str (T : Top K mg) : mg "str" = none := by
  obtain ⟨h, X, G, c⟩ := T.ex
  exact He.free_ok X G (c.d.fact 48 (f := .free "str") rfl)
theorem f_bool (T : Top K mg) : mg "bool" = none := by
  obtain ⟨h, X, G, c⟩ := T.ex
  exact He.free_ok X G (c.d.fact 49 (f := .free "bool") rfl)
theorem f_max (T : Top K mg) : mg "max" = none := by
  obtain ⟨h, X, G, c⟩ := T.ex
  exact He.free_ok X G (c.d.fact 50 (f := .free "max") rfl)
theorem f_min (T : Top K mg) : mg "min" = none := by
  obtain ⟨h, X, G, c⟩ := T.ex
  exact He.free_ok X G (c.d.fact 51 (f := .free "min") rfl)
theorem f_all (T : Top K mg) : mg "all" = none := by
  obtain ⟨h, X, G, c⟩ := T.ex
  exact He.free_ok X G (c.d.fact 52 (f := .free "all") rfl)
theorem f_any (T : Top K mg) : mg "any" = none := by
  obtain ⟨h, X, G, c⟩ := T.ex
  exact He.free_ok X G (c.d.fact 53 (f := .free "any") rfl)
theorem f_enumerate (T : Top K mg) : mg "enumerate" = none := by
  obtain ⟨h, X, G, c⟩ := T.ex
  exact He.free_ok X G (c.d.fact 54 (f := .free "enumerate") rfl)
theorem k_SMALL_LETTERS (T : Top K mg) : ∃ t, mg "SMALL_LETTERS" = some (.str "abcdefghijklmnopqrstuvwxyz" t) := by
  obtain ⟨h, X, G, c⟩ := T.ex
  exact He.str_ok X G (c.d.fact 55 (f := .str "SMALL_LETTERS" "abcdefghijklmnopqrstuvwxyz") rfl)
theorem k_MOST_LETTERS (T : Top K mg) : ∃ t, mg "MOST_LETTERS" = some (.int 4 t) := by
  obtain ⟨h, X, G, c⟩ := T.ex
  exact He.int_ok X G (c.d.fact 56 (f := .int "MOST_LETTERS" 4) rfl)
theorem k_MOST_WRITTEN (T : Top K mg) : ∃ t, mg "MOST_WRITTEN" = some (.int 400 t) := by
  obtain ⟨h, X, G, c⟩ := T.ex
  exact He.int_ok X G (c.d.fact 57 (f := .int "MOST_WRITTEN" 400) rfl)
theorem k_MOST_STATES (T : Top K mg) : ∃ t, mg "MOST_STATES" = some (.int 64 t) := by
  obtain ⟨h, X, G, c⟩ := T.ex
  exact He.int_ok X G (c.d.fact 58 (f := .int "MOST_STATES" 64) rfl)
theorem d_consists_of (T : Top K mg) : ∃ fd, FunD K "consists_of" "consists_of" (defArgs (top 13)) (defBody (top 13)) (defScope (top 13)) [] [] (He.ga K "consists_of") fd := by
  obtain ⟨h, X, G, c⟩ := T.ex
  exact c.d.def_ 0 (d := D_consists_of) rfl
theorem d_is_letters (T : Top K mg) : ∃ fd, FunD K "is_letters" "is_letters" (defArgs (top 14)) (defBody (top 14)) (defScope (top 14)) [] [] (He.ga K "is_letters") fd := by
  obtain ⟨h, X, G, c⟩ := T.ex
  exact c.d.def_ 1 (d := D_is_letters) rfl
theorem d_is_word (T : Top K mg) : ∃ fd, FunD K "is_word" "is_word" (defArgs (top 15)) (defBody (top 15)) (defScope (top 15)) [] [] (He.ga K "is_word") fd := by
  obtain ⟨h, X, G, c⟩ := T.ex
  exact c.d.def_ 2 (d := D_is_word) rfl
theorem d_check_letters (T : Top K mg) : ∃ fd, FunD K "check_letters" "check_letters" (defArgs (top 17)) (defBody (top 17)) (defScope (top 17)) [] [] (He.ga K "check_letters") fd := by
  obtain ⟨h, X, G, c⟩ := T.ex
  exact c.d.def_ 3 (d := D_check_letters) rfl
theorem d_ending_states (T : Top K mg) : ∃ fd, FunD K "ending_states" "ending_states" (defArgs (top 20)) (defBody (top 20)) (defScope (top 20)) [] [] (He.ga K "ending_states") fd := by
  obtain ⟨h, X, G, c⟩ := T.ex
  exact c.d.def_ 4 (d := D_ending_states) rfl
theorem d_is_written (T : Top K mg) : ∃ fd, FunD K "is_written" "is_written" (defArgs (top 24)) (defBody (top 24)) (defScope (top 24)) [] [] (He.ga K "is_written") fd := by
  obtain ⟨h, X, G, c⟩ := T.ex
  exact c.d.def_ 5 (d := D_is_written) rfl
theorem d_is_state (T : Top K mg) : ∃ fd, FunD K "is_state" "is_state" (defArgs (top 25)) (defBody (top 25)) (defScope (top 25)) [] [] (He.ga K "is_state") fd := by
  obtain ⟨h, X, G, c⟩ := T.ex
  exact c.d.def_ 6 (d := D_is_state) rfl
theorem d_is_move (T : Top K mg) : ∃ fd, FunD K "is_move" "is_move" (defArgs (top 26)) (defBody (top 26)) (defScope (top 26)) [] [] (He.ga K "is_move") fd := by
  obtain ⟨h, X, G, c⟩ := T.ex
  exact c.d.def_ 7 (d := D_is_move) rfl
theorem d_is_row (T : Top K mg) : ∃ fd, FunD K "is_row" "is_row" (defArgs (top 27)) (defBody (top 27)) (defScope (top 27)) [] [] (He.ga K "is_row") fd := by
  obtain ⟨h, X, G, c⟩ := T.ex
  exact c.d.def_ 8 (d := D_is_row) rfl
theorem d_check_moves (T : Top K mg) : ∃ fd, FunD K "check_moves" "check_moves" (defArgs (top 28)) (defBody (top 28)) (defScope (top 28)) [] [] (He.ga K "check_moves") fd := by
  obtain ⟨h, X, G, c⟩ := T.ex
  exact c.d.def_ 9 (d := D_check_moves) rfl
theorem d_check_finals (T : Top K mg) : ∃ fd, FunD K "check_finals" "check_finals" (defArgs (top 29)) (defBody (top 29)) (defScope (top 29)) [] [] (He.ga K "check_finals") fd := by
  obtain ⟨h, X, G, c⟩ := T.ex
  exact c.d.def_ 10 (d := D_check_finals) rfl
theorem d_reached_states (T : Top K mg) : ∃ fd, FunD K "reached_states" "reached_states" (defArgs (top 39)) (defBody (top 39)) (defScope (top 39)) [] [] (He.ga K "reached_states") fd := by
  obtain ⟨h, X, G, c⟩ := T.ex
  exact c.d.def_ 11 (d := D_reached_states) rfl
theorem d_useful_reader_states (T : Top K mg) : ∃ fd, FunD K "useful_reader_states" "useful_reader_states" (defArgs (top 40)) (defBody (top 40)) (defScope (top 40)) [] [] (He.ga K "useful_reader_states") fd := by
  obtain ⟨h, X, G, c⟩ := T.ex
  exact c.d.def_ 12 (d := D_useful_reader_states) rfl
theorem d_law_mix (T : Top K mg) : ∃ fd, FunD K "_law_mix" "_law_mix" (defArgs (top 42)) (defBody (top 42)) (defScope (top 42)) [] [] (He.ga K "_law_mix") fd := by
  obtain ⟨h, X, G, c⟩ := T.ex
  exact c.d.def_ 13 (d := D_law_mix) rfl
theorem d_law_store (T : Top K mg) : ∃ fd, FunD K "_law_store" "_law_store" (defArgs (top 43)) (defBody (top 43)) (defScope (top 43)) [] [] (He.ga K "_law_store") fd := by
  obtain ⟨h, X, G, c⟩ := T.ex
  exact c.d.def_ 14 (d := D_law_store) rfl
theorem d_law_take (T : Top K mg) : ∃ fd, FunD K "_law_take" "_law_take" (defArgs (top 44)) (defBody (top 44)) (defScope (top 44)) [] [] (He.ga K "_law_take") fd := by
  obtain ⟨h, X, G, c⟩ := T.ex
  exact c.d.def_ 15 (d := D_law_take) rfl
theorem d_law_pick (T : Top K mg) : ∃ fd, FunD K "_law_pick" "_law_pick" (defArgs (top 45)) (defBody (top 45)) (defScope (top 45)) [] [] (He.ga K "_law_pick") fd := by
  obtain ⟨h, X, G, c⟩ := T.ex
  exact c.d.def_ 16 (d := D_law_pick) rfl
theorem d_law_between (T : Top K mg) : ∃ fd, FunD K "_law_between" "_law_between" (defArgs (top 46)) (defBody (top 46)) (defScope (top 46)) [] [] (He.ga K "_law_between") fd := by
  obtain ⟨h, X, G, c⟩ := T.ex
  exact c.d.def_ 17 (d := D_law_between) rfl
theorem d_law_letters (T : Top K mg) : ∃ fd, FunD K "_law_letters" "_law_letters" (defArgs (top 47)) (defBody (top 47)) (defScope (top 47)) [] [] (He.ga K "_law_letters") fd := by
  obtain ⟨h, X, G, c⟩ := T.ex
  exact c.d.def_ 18 (d := D_law_letters) rfl
theorem d_law_word (T : Top K mg) : ∃ fd, FunD K "_law_word" "_law_word" (defArgs (top 48)) (defBody (top 48)) (defScope (top 48)) [] [] (He.ga K "_law_word") fd := by
  obtain ⟨h, X, G, c⟩ := T.ex
  exact c.d.def_ 19 (d := D_law_word) rfl
theorem d_law_unlike_word (T : Top K mg) : ∃ fd, FunD K "_law_unlike_word" "_law_unlike_word" (defArgs (top 49)) (defBody (top 49)) (defScope (top 49)) [] [] (He.ga K "_law_unlike_word") fd := by
  obtain ⟨h, X, G, c⟩ := T.ex
  exact c.d.def_ 20 (d := D_law_unlike_word) rfl
theorem d_law_reader (T : Top K mg) : ∃ fd, FunD K "_law_reader" "_law_reader" (defArgs (top 50)) (defBody (top 50)) (defScope (top 50)) [] [] (He.ga K "_law_reader") fd := by
  obtain ⟨h, X, G, c⟩ := T.ex
  exact c.d.def_ 21 (d := D_law_reader) rfl
theorem d_law_near_reader (T : Top K mg) : ∃ fd, FunD K "_law_near_reader" "_law_near_reader" (defArgs (top 51)) (defBody (top 51)) (defScope (top 51)) [] [] (He.ga K "_law_near_reader") fd := by
  obtain ⟨h, X, G, c⟩ := T.ex
  exact c.d.def_ 22 (d := D_law_near_reader) rfl
theorem d_law_wide_reader (T : Top K mg) : ∃ fd, FunD K "_law_wide_reader" "_law_wide_reader" (defArgs (top 52)) (defBody (top 52)) (defScope (top 52)) [] [] (He.ga K "_law_wide_reader") fd := by
  obtain ⟨h, X, G, c⟩ := T.ex
  exact c.d.def_ 23 (d := D_law_wide_reader) rfl
theorem d_law_same (T : Top K mg) : ∃ fd, FunD K "_law_same" "_law_same" (defArgs (top 53)) (defBody (top 53)) (defScope (top 53)) [] [] (He.ga K "_law_same") fd := by
  obtain ⟨h, X, G, c⟩ := T.ex
  exact c.d.def_ 24 (d := D_law_same) rfl
theorem d_law_copy (T : Top K mg) : ∃ fd, FunD K "_law_copy" "_law_copy" (defArgs (top 54)) (defBody (top 54)) (defScope (top 54)) [] [] (He.ga K "_law_copy") fd := by
  obtain ⟨h, X, G, c⟩ := T.ex
  exact c.d.def_ 25 (d := D_law_copy) rfl
theorem d_law_lists (T : Top K mg) : ∃ fd, FunD K "_law_lists" "_law_lists" (defArgs (top 55)) (defBody (top 55)) (defScope (top 55)) [] [] (He.ga K "_law_lists") fd := by
  obtain ⟨h, X, G, c⟩ := T.ex
  exact c.d.def_ 26 (d := D_law_lists) rfl
theorem d_law_wreck (T : Top K mg) : ∃ fd, FunD K "_law_wreck" "_law_wreck" (defArgs (top 56)) (defBody (top 56)) (defScope (top 56)) [] [] (He.ga K "_law_wreck") fd := by
  obtain ⟨h, X, G, c⟩ := T.ex
  exact c.d.def_ 27 (d := D_law_wreck) rfl
theorem d_law_reader_of (T : Top K mg) : ∃ fd, FunD K "_law_reader_of" "_law_reader_of" (defArgs (top 57)) (defBody (top 57)) (defScope (top 57)) [] [] (He.ga K "_law_reader_of") fd := by
  obtain ⟨h, X, G, c⟩ := T.ex
  exact c.d.def_ 28 (d := D_law_reader_of) rfl
theorem d_law_reader_parts_of (T : Top K mg) : ∃ fd, FunD K "_law_reader_parts_of" "_law_reader_parts_of" (defArgs (top 58)) (defBody (top 58)) (defScope (top 58)) [] [] (He.ga K "_law_reader_parts_of") fd := by
  obtain ⟨h, X, G, c⟩ := T.ex
  exact c.d.def_ 29 (d := D_law_reader_parts_of) rfl
theorem d_law_reached (T : Top K mg) : ∃ fd, FunD K "_law_reached" "_law_reached" (defArgs (top 59)) (defBody (top 59)) (defScope (top 59)) [] [] (He.ga K "_law_reached") fd := by
  obtain ⟨h, X, G, c⟩ := T.ex
  exact c.d.def_ 30 (d := D_law_reached) rfl
theorem d_law_due (T : Top K mg) : ∃ fd, FunD K "_law_due" "_law_due" (defArgs (top 60)) (defBody (top 60)) (defScope (top 60)) [] [] (He.ga K "_law_due") fd := by
  obtain ⟨h, X, G, c⟩ := T.ex
  exact c.d.def_ 31 (d := D_law_due) rfl
theorem d_law_drawn (T : Top K mg) : ∃ fd, FunD K "_law_drawn" "_law_drawn" (defArgs (top 61)) (defBody (top 61)) (defScope (top 61)) [] [] (He.ga K "_law_drawn") fd := by
  obtain ⟨h, X, G, c⟩ := T.ex
  exact c.d.def_ 32 (d := D_law_drawn) rfl
theorem d_law (T : Top K mg) : ∃ fd, FunD K "law" "law" (defArgs (top 62)) (defBody (top 62)) (defScope (top 62)) [] [] (He.ga K "law") fd := by
  obtain ⟨h, X, G, c⟩ := T.ex
  exact c.d.def_ 33 (d := D_law) rfl
theorem d_Reader_init (T : Top K mg) : ∃ fd, FunD K "__init__" "Reader.__init__" (defArgs (inClass (top 32) 0)) (defBody (inClass (top 32) 0)) (defScope (inClass (top 32) 0)) [] [] (He.ma K (He.ga K "Reader") "__init__") fd := by
  obtain ⟨h, X, G, c⟩ := T.ex
  exact c.d.def_ 34 (d := D_Reader_init) rfl
theorem d_Reader_read (T : Top K mg) : PropOf K (He.ga K "Reader") "read" (propAd K "Reader" "read") (getAd K "Reader" "read") ∧ ∃ fd, FunD K "read" "Reader.read" (defArgs (inClass (top 32) 1)) (defBody (inClass (top 32) 1)) (defScope (inClass (top 32) 1)) [] [] (getAd K "Reader" "read") fd := by
  obtain ⟨h, X, G, c⟩ := T.ex
  exact c.get 0 (d := P_Reader_read) rfl
theorem d_Reader_write (T : Top K mg) : PropOf K (He.ga K "Reader") "write" (propAd K "Reader" "write") (getAd K "Reader" "write") ∧ ∃ fd, FunD K "write" "Reader.write" (defArgs (inClass (top 32) 2)) (defBody (inClass (top 32) 2)) (defScope (inClass (top 32) 2)) [] [] (getAd K "Reader" "write") fd := by
  obtain ⟨h, X, G, c⟩ := T.ex
  exact c.get 1 (d := P_Reader_write) rfl
theorem d_Reader_first (T : Top K mg) : PropOf K (He.ga K "Reader") "first" (propAd K "Reader" "first") (getAd K "Reader" "first") ∧ ∃ fd, FunD K "first" "Reader.first" (defArgs (inClass (top 32) 3)) (defBody (inClass (top 32) 3)) (defScope (inClass (top 32) 3)) [] [] (getAd K "Reader" "first") fd := by
  obtain ⟨h, X, G, c⟩ := T.ex
  exact c.get 2 (d := P_Reader_first) rfl
theorem d_Reader_moves (T : Top K mg) : PropOf K (He.ga K "Reader") "moves" (propAd K "Reader" "moves") (getAd K "Reader" "moves") ∧ ∃ fd, FunD K "moves" "Reader.moves" (defArgs (inClass (top 32) 4)) (defBody (inClass (top 32) 4)) (defScope (inClass (top 32) 4)) [] [] (getAd K "Reader" "moves") fd := by
  obtain ⟨h, X, G, c⟩ := T.ex
  exact c.get 3 (d := P_Reader_moves) rfl
theorem d_Reader_finals (T : Top K mg) : PropOf K (He.ga K "Reader") "finals" (propAd K "Reader" "finals") (getAd K "Reader" "finals") ∧ ∃ fd, FunD K "finals" "Reader.finals" (defArgs (inClass (top 32) 5)) (defBody (inClass (top 32) 5)) (defScope (inClass (top 32) 5)) [] [] (getAd K "Reader" "finals") fd := by
  obtain ⟨h, X, G, c⟩ := T.ex
  exact c.get 4 (d := P_Reader_finals) rfl
end
end Lag

namespace Lag
open PySem PySem.Spec PyProof.Rows L2
/-! ### the draws: mix, store, take, pick, between -/
section
variable {P : Program} {w : World} {K : PySem.W.Frag} {mg : Str → Option Value} {base : Heap}
def sp_mix : Sp := fun vs H Q _ => ∃ n t : Int, vs = [.int n, .int t] ∧ ∀ r : Int, Q (.int r) H
theorem mulR {i j : Int} (h1 : -(2 ^ 64) < j) (h2 : j < 2 ^ 64) : CMul i j := .inr ⟨h1, h2⟩
theorem modLt (x m : Int) (h : 0 < m) : 0 ≤ x % m ∧ x % m < m := ⟨Int.emod_nonneg _ (by omega), Int.emod_lt_of_pos _ h⟩
theorem sqMod (x m : Int) (h : 0 < m) (h2 : m < 2 ^ 64) : CMul (x % m) (x % m) := by
  have := modLt x m h
  exact .inl ⟨by omega, by omega⟩
abbrev s_law_mix : Stmt := (top 42)
abbrev N_law_mix : List Str := ["_law_number", "_law_tick", "_law_one", "_law_two"]
theorem sc_law_mix : FnScope ["_law_number", "_law_tick", "_law_one", "_law_two"] ["_law_number", "_law_tick"] (defScope s_law_mix) := ⟨rfl, rfl, rfl, by decide +kernel, rfl, by decide +kernel, by decide +kernel⟩
theorem c_law_mix (T : Top K mg) : Cal P w K mg base (1) "_law_mix" (sp_mix) := by
  refine cal_of (d_law_mix T) (g_law_mix T) (fun _ F => F.bindsN fun _ _ _ _ _ _ us hl => match us, hl with | [_, _], _ => rfl) sc_law_mix (fun vs H Q E h => ?_) (fun cdv A outer s H vs Q E hroom h => ?_)
  · obtain ⟨n, t, rfl, k⟩ := h
    rfl
  obtain ⟨n, t, rfl, k⟩ := h
  refine ⟨_, (pss_cons (ps_set (i := 2) sc_law_mix.nd rfl (Or.inl rfl) (pe_op op_mod (pe_callTy call_int1 (by rfl) (f_int T) (by decide +kernel) (pa_cons (pe_op op_add (pe_op op_add (pe_op op_mul (pe_op op_mod (pe_callTy call_int1 (by rfl) (f_int T) (by decide +kernel) (pa_cons (pv 0) pa_nil)) pe_int) pe_int) (pe_op op_mul (pv 1) pe_int)) pe_int) pa_nil)) pe_int))
      (pss_cons (ps_set (i := 3) sc_law_mix.nd rfl (Or.inl rfl) (pe_op op_mod (pe_callTy call_int1 (by rfl) (f_int T) (by decide +kernel) (pa_cons (pe_op op_add (pe_op op_add (pe_op op_mul (pv 2) (pv 2)) (pe_op op_fdiv (pv 2) pe_int)) (pe_op op_mul (pv 1) pe_int)) pa_nil)) pe_int))
      (pss_one (ps_ret (pe_op op_mod (pe_callTy call_int1 (by rfl) (f_int T) (by decide +kernel) (pa_cons (pe_op op_add (pe_op op_add (pe_op op_mul (pv 3) (pv 3)) (pe_op op_fdiv (pv 3) pe_int)) (pv 2)) pa_nil)) pe_int))))), ?_⟩
  refine ⟨_, rfl, .inl ⟨_, rfl, _, _, rfl, rfl, (by decide : (0 : Int) < 2147483647), _, _, rfl, rfl, mulR (by decide) (by decide), ?_⟩⟩
  refine ⟨_, rfl, _, _, rfl, rfl, mulR (by decide) (by decide), _, _, rfl, rfl, _, _, rfl, rfl, .inl ⟨_, rfl, _, _, rfl, rfl, (by decide : (0 : Int) < 2147483647), ?_⟩⟩
  refine ⟨_, rfl, _, rfl, _, _, rfl, rfl, sqMod _ _ (by decide) (by decide), _, rfl, _, _, rfl, rfl, ⟨by decide, by decide⟩, _, _, rfl, rfl, ?_⟩
  refine ⟨_, rfl, _, _, rfl, rfl, mulR (by decide) (by decide), _, _, rfl, rfl, .inl ⟨_, rfl, _, _, rfl, rfl, (by decide : (0 : Int) < 1000000007), ?_⟩⟩
  refine ⟨_, rfl, _, rfl, _, _, rfl, rfl, sqMod _ _ (by decide) (by decide), _, rfl, _, _, rfl, rfl, ⟨by decide, by decide⟩, _, _, rfl, rfl, ?_⟩
  refine ⟨_, rfl, _, _, rfl, rfl, .inl ⟨_, rfl, _, _, rfl, rfl, (by decide : (0 : Int) < 2147483629), ?_⟩⟩
  exact k _
end
section
variable {P : Program} {w : World} {K : PySem.W.Frag} {mg : Str → Option Value} {base : Heap}
/-- the store of the draws, made of the script -/
def sp_store (K : PySem.W.Frag) : Sp := fun vs H Q _ => ∃ (a : Addr) (ns : List Int), vs = [.ref a] ∧ SqL K H a (ns.map V.int) ∧
  ∀ (H' : Hp) (p c : Addr) (e : Int), Same H H' → H p = none → H c = none → H' p = some (.lst [.ref c, .int 0, .int 0, .int 0, .int e]) → H' c = some (.lst (ns.map V.int)) → Q (.ref p) H'
abbrev s_law_store : Stmt := (top 43)
abbrev N_law_store : List Str := ["_law_script", "_law_seed", "_law_cell"]
theorem sc_law_store : FnScope ["_law_script", "_law_seed", "_law_cell"] ["_law_script"] (defScope s_law_store) := ⟨rfl, rfl, rfl, by decide +kernel, rfl, by decide +kernel, by decide +kernel⟩
theorem c_law_store (T : Top K mg) : Cal P w K mg base (1) "_law_store" (sp_store K) := by
  refine cal_of (d_law_store T) (g_law_store T) (fun _ F => F.bindsN fun _ _ _ _ _ _ us hl => match us, hl with | [_], _ => rfl) sc_law_store (fun vs H Q E h => ?_) (fun cdv A outer s H vs Q E hroom h => ?_)
  · obtain ⟨a, ns, rfl, hS, k⟩ := h
    rfl
  obtain ⟨a, ns, rfl, hS, k⟩ := h
  refine ⟨_, (pss_cons (ps_set (i := 1) sc_law_store.nd rfl (Or.inl rfl) pe_int)
      (pss_cons (ps_for PassesOwn.never rfl (pi_listK K rfl (pv 0)) (pg_name (i := 2) sc_law_store.nd rfl (Or.inl rfl))
      (pss_one (ps_set (i := 1) sc_law_store.nd rfl (Or.inl rfl) (pe_op op_mod (pe_callTy call_int1 (by rfl) (f_int T) (by decide +kernel) (pa_cons (pe_op op_add (pe_op op_add (pe_op op_mul (pv 1) pe_int) (pe_op op_mod (pe_callTy call_int1 (by rfl) (f_int T) (by decide +kernel) (pa_cons (pv 2) pa_nil)) pe_int)) pe_int) pa_nil)) pe_int))))
      (pss_one (ps_ret (pe_lst (pa_cons (pe_callTy (call_list_ofK K rfl) (by rfl) (f_list T) (by decide +kernel) (pa_cons (pv 0) pa_nil)) (pa_cons pe_int (pa_cons pe_int (pa_cons pe_int (pa_cons (pv 1) pa_nil)))))))))), ?_⟩
  refine ⟨_, rfl, a, rfl, ⟨_, hS⟩, for_it (walk_list (xs := ns.map V.int)) (fun i σ H' => H' = H ∧ ∃ (z : Int) (v : Option V), σ = [some (.ref a), some (.int z), v]) ⟨rfl, _, _, rfl⟩ (fun i σ H' _ hP => by rw [hP.1]; exact hS) ?_ ?_⟩
  · rintro i x σ H1 H2 hi ⟨rfl, z, v, rfl⟩ ⟨rfl, hx⟩
    obtain ⟨u, _, rfl⟩ := ints_at hx
    exact ⟨_, rfl, _, _, rfl, rfl, mulR (by decide) (by decide), _, rfl, .inl ⟨_, rfl, _, _, rfl, rfl, (by decide : (0 : Int) < 1000003), _, _, rfl, rfl, _, _, rfl, rfl, .inl ⟨_, rfl, _, _, rfl, rfl, (by decide : (0 : Int) < 2147483647), rfl, _, _, rfl⟩⟩⟩
  · rintro σ H' ⟨rfl, z, v, rfl⟩
    refine ⟨_, rfl, a, _, rfl, .inl hS, fun c hc => ⟨_, rfl, ?_⟩⟩
    refine ⟨by show 5 ≤ sizeLine; decide, fun p hp => ?_⟩
    have hpc : p ≠ c := (ne_of_none upd_same hp).symm
    refine k _ p c z ((same_new hc).trans (same_new hp)) ?_ hc upd_same ?_
    · rw [upd_ne hpc] at hp
      exact hp
    · rw [upd_ne hpc.symm, upd_same]
/-- a draw below many -/
def sp_take : Sp := fun vs H Q _ => ∃ (G : Hp) (s c : Addr) (ns : List Int) (many : Int), vs = [.ref s, .int many] ∧ Wd (.at_ s c ns) G H ∧ many < 1073741824 ∧
  ∀ (H' : Hp) (r : Int), Aft (.at_ s c ns) G H H' → 0 ≤ r → r < 1 ∨ r < many → Q (.int r) H'
theorem maxOne {many : Int} (h : many < 1073741824) : 0 < (if many > 1 then many else 1) ∧ (if many > 1 then many else 1) < 1073741824 ∧ ∀ x : Int, 0 ≤ x → x < (if many > 1 then many else 1) → (x < 1 ∨ x < many) := by
  by_cases h1 : many > 1
  · rw [if_pos h1]; exact ⟨by omega, h, fun x _ h2 => .inr h2⟩
  · rw [if_neg h1]; exact ⟨by omega, by omega, fun x _ h2 => .inl h2⟩
abbrev s_law_take : Stmt := (top 44)
abbrev N_law_take : List Str := ["_law_store_here", "_law_many", "_law_cells", "_law_cell", "_law_digit"]
theorem sc_law_take : FnScope ["_law_store_here", "_law_many", "_law_cells", "_law_cell", "_law_digit"] ["_law_store_here", "_law_many"] (defScope s_law_take) := ⟨rfl, rfl, rfl, by decide +kernel, rfl, by decide +kernel, by decide +kernel⟩
theorem c_law_take (T : Top K mg) : Cal P w K mg base (2) "_law_take" (sp_take) := by
  refine cal_of (d_law_take T) (g_law_take T) (fun _ F => F.bindsN fun _ _ _ _ _ _ us hl => match us, hl with | [_, _], _ => rfl) sc_law_take (fun vs H Q E h => ?_) (fun cdv A outer s H vs Q E hroom h => ?_)
  · obtain ⟨G, s, c, ns, many, rfl, hW, hm, k⟩ := h
    rfl
  obtain ⟨G, s, c, ns, many, rfl, hW, hm, k⟩ := h
  refine ⟨_, (pss_cons (ps_set (i := 1) sc_law_take.nd rfl (Or.inl rfl) (pe_callB (call_max2 rfl) (by rfl) (f_max T) (by decide +kernel) (pa_cons pe_int (pa_cons (pv 1) pa_nil))))
      (pss_cons (ps_asg (pe_op op_add (pe_ix (ix_listK K rfl) (pv 0) pe_int (fun _ _ => rfl)) pe_int) (pg_sub (pv 0) pe_int set_list))
      (pss_cons (ps_set (i := 2) sc_law_take.nd rfl (Or.inl rfl) (pe_ix (ix_listK K rfl) (pv 0) pe_int (fun _ _ => rfl)))
      (pss_mid (ps_if (PW.pt (pw_and (pt_cmpR op_lt (pe_ix (ix_listK K rfl) (pv 0) pe_int (fun _ _ => rfl)) pe_int (nomark _)) (pw_and1 (pt_cmpR op_lt (pe_ix (ix_listK K rfl) (pv 0) pe_int (fun _ _ => rfl)) (pe_callB (call_len_seqK K rfl) (by rfl) (f_len T) PySem.boot_len (pa_cons (pv 2) pa_nil)) (nomark _))))) (pss_cons (ps_set (i := 3) sc_law_take.nd rfl (Or.inl rfl) (pe_callTy call_int1 (by rfl) (f_int T) (by decide +kernel) (pa_cons (pe_ix (ix_listK K rfl) (pv 2) (pe_ix (ix_listK K rfl) (pv 0) pe_int (fun _ _ => rfl)) (fun _ _ => rfl)) pa_nil)))
      (pss_cons (ps_asg (pe_op op_add (pe_ix (ix_listK K rfl) (pv 0) pe_int (fun _ _ => rfl)) pe_int) (pg_sub (pv 0) pe_int set_list))
      (pss_cons (ps_if (pt_cmpR op_lt (pv 3) (pe_op op_pow pe_int pe_int) (nomark _)) (pss_one (ps_ret (pe_op op_mod (pe_callTy call_int1 (by rfl) (f_int T) (by decide +kernel) (pa_cons (pe_cl (c_law_mix T) hroom (by decide) (by rfl) (pa_cons (pv 3) (pa_cons (pe_ix (ix_listK K rfl) (pv 0) pe_int (fun _ _ => rfl)) pa_nil))) pa_nil)) (pv 1)))) pss_nil)
      (pss_one (ps_asg (pe_callTy call_int1 (by rfl) (f_int T) (by decide +kernel) (pa_cons (pv 3) pa_nil)) (pg_sub (pv 0) pe_int set_list)))))) pss_nil)
      (pss_cons (ps_if (pt_cmpR op_lt (pe_ix (ix_listK K rfl) (pv 0) pe_int (fun _ _ => rfl)) pe_int (nomark _)) (pss_one (ps_ret (pe_op op_mod (pe_callTy call_int1 (by rfl) (f_int T) (by decide +kernel) (pa_cons (pe_cl (c_law_mix T) hroom (by decide) (by rfl) (pa_cons (pe_ix (ix_listK K rfl) (pv 0) pe_int (fun _ _ => rfl)) (pa_cons (pe_ix (ix_listK K rfl) (pv 0) pe_int (fun _ _ => rfl)) pa_nil))) pa_nil)) (pv 1)))) pss_nil)
      (pss_cons (ps_set (i := 4) sc_law_take.nd rfl (Or.inl rfl) (pe_op op_mod (pe_callTy call_int1 (by rfl) (f_int T) (by decide +kernel) (pa_cons (pe_ix (ix_listK K rfl) (pv 0) pe_int (fun _ _ => rfl)) pa_nil)) (pv 1)))
      (pss_cons (ps_asg (pe_op op_fdiv (pe_callTy call_int1 (by rfl) (f_int T) (by decide +kernel) (pa_cons (pe_ix (ix_listK K rfl) (pv 0) pe_int (fun _ _ => rfl)) pa_nil)) (pv 1)) (pg_sub (pv 0) pe_int set_list))
      (pss_one (ps_ret (pv 4)))))))))), ?_⟩
  obtain ⟨m0, m1, m2⟩ := maxOne hm
  refine ⟨_, rfl, _, _, rfl, ?_⟩
  generalize hmm : (if many > 1 then many else 1) = m at m0 m1 m2
  obtain ⟨_, _, hlen, i, b, t, e, hi, hS⟩ := hW.sto
  -- the tick
  refine ⟨_, rfl, _, _, _, _, rfl, rfl, SqL.of hS, rfl, _, _, rfl, rfl, _, rfl, _, _, _, _, rfl, rfl, hS, rfl, ?_⟩
  have a1 : Aft (.at_ s c ns) G H (upd H s (.lst [.ref c, .int i, .int b, .int (t + 1), .int e])) := hW.put hi
  refine ⟨_, rfl, _, _, _, _, rfl, rfl, SqL.of upd_same, rfl, ?_⟩
  -- behind the first if the store may have another cell
  refine ⟨fun σ H' => ∃ v3 : Option V, σ = [some (.ref s), some (.int m), some (.ref c), v3, none] ∧ Aft (.at_ s c ns) G H H', ?_, ?_⟩
  · rintro σ H1 ⟨v3, rfl, a2⟩
    obtain ⟨_, _, _, i2, b2, t2, e2, hi2, hS2⟩ := a2.wd.sto
    refine ⟨_, rfl, _, _, _, _, rfl, rfl, SqL.of hS2, rfl, _, _, rfl, rfl, _, rfl, ifD (fun _ => ?_) (fun _ => ?_)⟩
    · refine ⟨_, rfl, _, _, _, _, rfl, rfl, SqL.of hS2, rfl, _, rfl, _, _, _, _, rfl, rfl, SqL.of hS2, rfl, _, _, rfl, fun r => .inl ⟨_, rfl, _, rfl, _, _, rfl, rfl, m0, ?_⟩⟩
      have := modLt r m m0
      exact k _ _ a2 this.1 (m2 _ this.1 this.2)
    · refine ⟨_, rfl, _, _, _, _, rfl, rfl, SqL.of hS2, rfl, .inl ⟨_, rfl, _, rfl, _, _, rfl, rfl, m0, ?_⟩⟩
      refine ⟨_, rfl, _, _, _, _, rfl, rfl, SqL.of hS2, rfl, .inl ⟨_, rfl, _, rfl, _, _, rfl, rfl, ⟨m0, m1⟩, _, rfl, _, _, _, _, rfl, rfl, hS2, rfl, _, rfl, ?_⟩⟩
      have := modLt b2 m m0
      exact k _ _ (a2.trans (a2.wd.put hi2)) this.1 (m2 _ this.1 this.2)
  · refine ⟨_, rfl, _, _, _, _, rfl, rfl, SqL.of upd_same, rfl, _, _, rfl, rfl, _, rfl, ifD (fun _ => ?_) (fun _ => ?_)⟩
    · refine ⟨_, rfl, _, _, _, _, rfl, rfl, SqL.of upd_same, rfl, _, rfl, _, _, rfl, .inl (SqL.of a1.wd.cells), _, _, rfl, rfl, _, rfl, ifD (fun h2 => ?_) (fun _ => ?_)⟩
      · have hlt := dOf h2
        have hlt2 : i.toNat < ns.length := by
          rw [List.length_map] at hlt
          omega
        obtain ⟨u, hu⟩ := get_lt hlt2
        refine ⟨_, rfl, _, rfl, _, _, _, _, rfl, rfl, SqL.of upd_same, rfl, _, _, _, _, rfl, rfl, SqL.of a1.wd.cells, atI_int hi (by rw [List.getElem?_map, hu]; rfl), .inl ⟨_, rfl, ?_⟩⟩
        refine ⟨_, rfl, _, _, _, _, rfl, rfl, SqL.of upd_same, rfl, _, _, rfl, rfl, _, rfl, _, _, _, _, rfl, rfl, upd_same, rfl, ?_⟩
        have a2 : Aft (.at_ s c ns) G H (upd (upd H s (.lst [.ref c, .int i, .int b, .int (t + 1), .int e])) s (.lst [.ref c, .int (i + 1), .int b, .int (t + 1), .int e])) := a1.trans (a1.wd.put (by omega))
        refine ⟨_, rfl, _, _, rfl, rfl, ⟨by decide, by decide, by decide⟩, _, _, rfl, rfl, _, rfl, ifD (fun _ => ?_) (fun _ => ?_)⟩
        · refine ⟨_, rfl, _, rfl, _, _, _, _, rfl, rfl, SqL.of upd_same, rfl, _, _, rfl, fun r => .inl ⟨_, rfl, _, rfl, _, _, rfl, rfl, m0, ?_⟩⟩
          have := modLt r m m0
          exact k _ _ a2 this.1 (m2 _ this.1 this.2)
        · refine ⟨_, rfl, .inl ⟨_, rfl, _, rfl, _, _, _, _, rfl, rfl, upd_same, rfl, _, rfl, ?_⟩⟩
          exact a2.trans (a2.wd.put (by omega))
      · exact ⟨_, rfl, a1⟩
    · exact ⟨_, rfl, a1⟩
end

end Lag

namespace Lag
open PySem PySem.Spec PyProof.Rows L2
/-! ### the draws: pick, between, letters, words -/
section
variable {P : Program} {w : World} {K : PySem.W.Frag} {mg : Str → Option Value} {base : Heap}
/-- one item of a text or a list -/
def sp_pick : Sp := fun vs H Q _ => ∃ (G : Hp) (s c : Addr) (ns : List Int) (v : V), vs = [.ref s, v] ∧ Wd (.at_ s c ns) G H ∧
  ((∃ z : Str, v = .str z ∧ 0 < z.length ∧ z.length ≤ 1000 ∧ ∀ (H' : Hp) (d : Nat), Aft (.at_ s c ns) G H H' → d ∈ cs z → Q (.str ⟨#[d]⟩) H') ∨
   (∃ (a : Addr) (xs : List V), v = .ref a ∧ H a = some (.lst xs) ∧ a ≠ s ∧ 0 < xs.length ∧ xs.length ≤ 1000 ∧ ∀ (H' : Hp) (x : V), Aft (.at_ s c ns) G H H' → x ∈ xs → Q x H'))
theorem below {n : Nat} (h : 0 < n) {r : Int} (h0 : 0 ≤ r) (h1 : r < 1 ∨ r < (n : Int)) : r.toNat < n := by omega
abbrev s_law_pick : Stmt := (top 45)
abbrev N_law_pick : List Str := ["_law_store_here", "_law_row"]
theorem sc_law_pick : FnScope ["_law_store_here", "_law_row"] ["_law_store_here", "_law_row"] (defScope s_law_pick) := ⟨rfl, rfl, rfl, by decide +kernel, rfl, by decide +kernel, by decide +kernel⟩
theorem c_law_pick (T : Top K mg) : Cal P w K mg base (3) "_law_pick" (sp_pick) := by
  refine cal_of (d_law_pick T) (g_law_pick T) (fun _ F => F.bindsN fun _ _ _ _ _ _ us hl => match us, hl with | [_, _], _ => rfl) sc_law_pick (fun vs H Q E h => ?_) (fun cdv A outer s H vs Q E hroom h => ?_)
  · obtain ⟨G, s, c, ns, v, rfl, hW, hv⟩ := h
    rfl
  obtain ⟨G, s, c, ns, v, rfl, hW, hv⟩ := h
  refine ⟨_, (pss_one (ps_ret (pe_ix (ix_seqK K rfl) (pv 1) (pe_cl (c_law_take T) hroom (by decide) (by rfl) (pa_cons (pv 0) (pa_cons (pe_callB (call_lenK K rfl) (by rfl) (f_len T) PySem.boot_len (pa_cons (pv 1) pa_nil)) pa_nil))) (fun _ _ => rfl)))), ?_⟩
  rcases hv with ⟨z, rfl, h0, h1, k⟩ | ⟨a, xs, rfl, ha, hne, h0, h1, k⟩
  · refine ⟨_, rfl, _, rfl, _, rfl, _, z.length, rfl, ⟨small_sz (by omega), rfl⟩, G, s, c, ns, _, rfl, hW, by omega, fun H' r hA r0 r1 => ?_⟩
    have hlt := below h0 r0 r1
    obtain ⟨d, hd⟩ : ∃ d, (cs z)[r.toNat]? = some d := get_lt (by rw [cs_len]; exact hlt)
    exact .inr (.inr ⟨z, r, d, rfl, rfl, small_sz (by omega), atI_int r0 hd, k H' d hA (List.mem_of_getElem? hd)⟩)
  · refine ⟨_, rfl, _, rfl, _, rfl, _, xs.length, rfl, .inl ⟨xs, SqL.of ha, rfl⟩, G, s, c, ns, _, rfl, hW, by omega, fun H' r hA r0 r1 => ?_⟩
    have hlt := below h0 r0 r1
    obtain ⟨x, hx⟩ := get_lt hlt
    exact .inl ⟨a, xs, r, x, rfl, rfl, SqL.of (hA.but a _ ha hne), atI_int r0 hx, k H' x hA (List.mem_of_getElem? hx)⟩
/-- from low to high -/
def sp_between : Sp := fun vs H Q _ => ∃ (G : Hp) (s c : Addr) (ns : List Int) (lo hi : Int), vs = [.ref s, .int lo, .int hi] ∧ Wd (.at_ s c ns) G H ∧ lo ≤ hi ∧ hi - lo < 1000000 ∧
  ∀ (H' : Hp) (r : Int), Aft (.at_ s c ns) G H H' → lo ≤ r → r ≤ hi → Q (.int r) H'
abbrev s_law_between : Stmt := (top 46)
abbrev N_law_between : List Str := ["_law_store_here", "_law_low", "_law_high", "_law_draw"]
theorem sc_law_between : FnScope ["_law_store_here", "_law_low", "_law_high", "_law_draw"] ["_law_store_here", "_law_low", "_law_high"] (defScope s_law_between) := ⟨rfl, rfl, rfl, by decide +kernel, rfl, by decide +kernel, by decide +kernel⟩
theorem c_law_between (T : Top K mg) : Cal P w K mg base (3) "_law_between" (sp_between) := by
  refine cal_of (d_law_between T) (g_law_between T) (fun _ F => F.bindsN fun _ _ _ _ _ _ us hl => match us, hl with | [_, _, _], _ => rfl) sc_law_between (fun vs H Q E h => ?_) (fun cdv A outer s H vs Q E hroom h => ?_)
  · obtain ⟨G, s, c, ns, lo, hi, rfl, hW, h1, h2, k⟩ := h
    rfl
  obtain ⟨G, s, c, ns, lo, hi, rfl, hW, h1, h2, k⟩ := h
  refine ⟨_, (pss_cons (ps_set (i := 3) sc_law_between.nd rfl (Or.inl rfl) (pe_cl (c_law_take T) hroom (by decide) (by rfl) (pa_cons (pv 0) (pa_cons pe_int pa_nil))))
      (pss_cons (ps_if (PW.pt (pw_or (pt_cmpR op_eq (pv 3) pe_int (nomark _)) (pw_or1 (pt_cmpR op_lt (pv 2) (pv 1) (nomark _))))) (pss_one (ps_ret (pv 1))) pss_nil)
      (pss_cons (ps_if (pt_cmpR op_eq (pv 3) pe_int (nomark _)) (pss_one (ps_ret (pv 2))) pss_nil)
      (pss_one (ps_ret (pe_op op_add (pv 1) (pe_cl (c_law_take T) hroom (by decide) (by rfl) (pa_cons (pv 0) (pa_cons (pe_op op_add (pe_op op_sub (pv 2) (pv 1)) pe_int) pa_nil))))))))), ?_⟩
  refine ⟨_, rfl, G, s, c, ns, _, rfl, hW, by omega, fun H1 d a1 d0 d1 => ?_⟩
  refine ⟨_, rfl, rfl, _, rfl, ifD (fun e1 => ?_) (fun e1 => ?_)⟩
  · exact ⟨_, rfl, k H1 lo a1 (Int.le_refl _) h1⟩
  · refine ⟨_, rfl, _, rfl, _, _, rfl, rfl, _, rfl, ifF (dF (by omega)) ?_⟩
    refine ⟨_, rfl, rfl, _, rfl, ifD (fun e2 => ?_) (fun e2 => ?_)⟩
    · exact ⟨_, rfl, k H1 hi a1 h1 (Int.le_refl _)⟩
    · refine ⟨_, rfl, _, rfl, _, rfl, _, rfl, _, _, rfl, rfl, _, _, rfl, rfl, G, s, c, ns, _, rfl, a1.wd, by omega, fun H2 r a2 r0 r1 => ?_⟩
      exact ⟨_, _, rfl, rfl, k H2 _ (a1.trans a2) (by omega) (by omega)⟩
/-- an alphabet of at most limit letters -/
def sp_letters : Sp := fun vs H Q _ => ∃ (G : Hp) (s c : Addr) (ns : List Int) (limit : Nat), vs = [.ref s, .int limit] ∧ Wd (.at_ s c ns) G H ∧ 1 ≤ limit ∧ limit ≤ 4 ∧
  ∀ (H' : Hp) (z : Str), Aft (.at_ s c ns) G H H' → Alph limit z → Q (.str z) H'
theorem head_alph : ∀ n ∈ [1, 2, 3, 4], (cs (cutS abc none (some ((n : Nat) : Int))) = (List.range n).map (· + 97)) ∧ (cs (cutS abc (some (26 - ((n : Nat) : Int))) none) = (List.range n).map (· + (123 - n))) := by decide +kernel
theorem range_alph (n m : Nat) (h1 : 1 ≤ n) (h2 : 97 ≤ m) (h3 : n + m ≤ 123) {z : Str} (e : cs z = (List.range n).map (· + m)) : Alph n z := by
  refine ⟨?_, ?_, ?_, ?_⟩
  · rw [e]
    exact List.Pairwise.map _ (fun a b h => by show a + m < b + m; exact Nat.add_lt_add_right h m) List.pairwise_lt_range
  · intro c hc
    rw [e] at hc
    obtain ⟨i, hi, rfl⟩ := List.mem_map.mp hc
    have := List.mem_range.mp hi
    omega
  · rw [← cs_len, e, List.length_map, List.length_range]; exact h1
  · rw [← cs_len, e, List.length_map, List.length_range]; exact Nat.le_refl _
theorem abc_at {i : Nat} (h : i < 26) : (cs abc)[i]? = some (97 + i) := by
  rw [abc_cs, List.getElem?_map, List.getElem?_range h, Nat.add_comm]
  rfl
abbrev s_law_letters : Stmt := (top 47)
abbrev N_law_letters : List Str := ["_law_store_here", "_law_limit", "_law_size", "_law_every", "_law_draw", "_law_at", "_law_word_here", "_law_k"]
theorem sc_law_letters : FnScope ["_law_store_here", "_law_limit", "_law_size", "_law_every", "_law_draw", "_law_at", "_law_word_here", "_law_k"] ["_law_store_here", "_law_limit"] (defScope s_law_letters) := ⟨rfl, rfl, rfl, by decide +kernel, rfl, by decide +kernel, by decide +kernel⟩
theorem c_law_letters (T : Top K mg) : Cal P w K mg base (3) "_law_letters" (sp_letters) := by
  refine cal_of (d_law_letters T) (g_law_letters T) (fun _ F => F.bindsN fun _ _ _ _ _ _ us hl => match us, hl with | [_, _], _ => rfl) sc_law_letters (fun vs H Q E h => ?_) (fun cdv A outer s H vs Q E hroom h => ?_)
  · obtain ⟨G, s, c, ns, limit, rfl, hW, l1, l4, k⟩ := h
    rfl
  obtain ⟨G, s, c, ns, limit, rfl, hW, l1, l4, k⟩ := h
  refine ⟨_, (pss_cons (ps_set (i := 2) sc_law_letters.nd rfl (Or.inl rfl) (pe_op op_add pe_int (pe_cl (c_law_take T) hroom (by decide) (by rfl) (pa_cons (pv 0) (pa_cons (pe_callB (call_max2 rfl) (by rfl) (f_max T) (by decide +kernel) (pa_cons pe_int (pa_cons (pe_callB (call_min2 rfl) (by rfl) (f_min T) (by decide +kernel) (pa_cons pe_int (pa_cons (pv 1) pa_nil))) pa_nil))) pa_nil)))))
      (pss_cons (ps_set (i := 3) sc_law_letters.nd rfl (Or.inl rfl) pe_str)
      (pss_cons (ps_set (i := 4) sc_law_letters.nd rfl (Or.inl rfl) (pe_cl (c_law_take T) hroom (by decide) (by rfl) (pa_cons (pv 0) (pa_cons pe_int pa_nil))))
      (pss_cons (ps_if (pt_cmpR op_eq (pv 4) pe_int (nomark _)) (pss_one (ps_ret (pe_slice sl_str (pv 3) po_none (po_some (pv 2))))) pss_nil)
      (pss_cons (ps_if (pt_cmpR op_eq (pv 4) pe_int (nomark _)) (pss_one (ps_ret (pe_slice sl_str (pv 3) (po_some (pe_op op_sub pe_int (pv 2))) po_none))) pss_nil)
      (pss_cons (ps_set (i := 5) sc_law_letters.nd rfl (Or.inl rfl) (pe_un un_neg pe_int))
      (pss_cons (ps_set (i := 6) sc_law_letters.nd rfl (Or.inl rfl) pe_str)
      (pss_cons (ps_for PassesOwn.never rfl (pi_range1 (by rfl) (f_range T) (pa_cons (pv 2) pa_nil)) (pg_name (i := 7) sc_law_letters.nd rfl (Or.inl rfl))
      (pss_cons (ps_set (i := 5) sc_law_letters.nd rfl (Or.inl rfl) (pe_op op_add (pe_op op_add (pv 5) pe_int) (pe_cl (c_law_take T) hroom (by decide) (by rfl) (pa_cons (pv 0) (pa_cons (pe_op op_sub (pe_op op_add (pe_op op_sub pe_int (pv 2)) (pv 7)) (pv 5)) pa_nil)))))
      (pss_one (ps_set (i := 6) sc_law_letters.nd rfl (Or.inl rfl) (pe_op op_add_str (pv 6) (pe_ix ix_str (pv 3) (pv 5) (fun _ _ => rfl)))))))
      (pss_one (ps_ret (pv 6))))))))))), ?_⟩
  refine ⟨_, rfl, _, rfl, _, _, rfl, _, _, rfl, G, s, c, ns, _, rfl, hW, ?_, fun H1 d a1 d0 d1 => ?_⟩
  · split <;> split <;> omega
  have d2 : d < limit := by
    have : (if (if (limit : Int) < 4 then (limit : Int) else 4) > 1 then (if (limit : Int) < 4 then (limit : Int) else 4) else 1) ≤ limit := by split <;> split <;> omega
    omega
  clear d1
  obtain ⟨n, hn⟩ : ∃ n : Nat, 1 + d = (n : Int) := ⟨(1 + d).toNat, by omega⟩
  have n1 : 1 ≤ n := by omega
  have n4 : n ≤ limit := by omega
  have nm : n ∈ [1, 2, 3, 4] := by
    have : n = 1 ∨ n = 2 ∨ n = 3 ∨ n = 4 := by omega
    rcases this with e | e | e | e <;> (subst e; decide)
  refine rI0_eq (v := .int n) (by show V.int (1 + d) = _; rw [hn]) ?_
  refine ⟨_, rfl, G, s, c, ns, _, rfl, a1.wd, by decide, fun H2 d2 a2 _ _ => ?_⟩
  have a12 := a1.trans a2
  refine ⟨_, rfl, rfl, _, rfl, ifD (fun _ => ?_) (fun _ => ?_)⟩
  · refine ⟨_, rfl, _, rfl, _, rfl, _, rfl, small_sz (by rw [show (("abcdefghijklmnopqrstuvwxyz" : Str)) = abc from rfl, abc_len]; decide), ?_⟩
    exact k _ _ a12 ((range_alph n 97 n1 (Nat.le_refl _) (by omega) (head_alph n nm).1).mono n4)
  · refine ⟨_, rfl, rfl, _, rfl, ifD (fun _ => ?_) (fun _ => ?_)⟩
    · refine ⟨_, rfl, _, rfl, _, _, rfl, rfl, _, rfl, _, rfl, small_sz (by rw [show (("abcdefghijklmnopqrstuvwxyz" : Str)) = abc from rfl, abc_len]; decide), ?_⟩
      exact k _ _ a12 ((range_alph n (123 - n) n1 (by omega) (by omega) (head_alph n nm).2).mono n4)
    · refine ⟨_, rfl, _, rfl, n, rfl, by omega, by omega, for_it (walk_range (lo := 0) (n := (n : Int).toNat)) (fun i σ H' => ∃ (at_ : Int) (z : Str) (v : Option V), σ = [some (.ref s), some (.int limit), some (.int n), some (.str "abcdefghijklmnopqrstuvwxyz"), some (.int d2), some (.int at_), some (.str z), v] ∧
        Aft (.at_ s c ns) G H H' ∧ -1 ≤ at_ ∧ at_ + 1 ≤ 26 - n + i ∧ z.length = i ∧ (cs z).Pairwise (· < ·) ∧ (∀ c ∈ cs z, 97 ≤ c ∧ (c : Int) ≤ 97 + at_)) ?_ (fun _ _ _ _ _ => trivial) ?_ ?_⟩
      · exact ⟨-1, "", none, rfl, a12, by omega, by omega, by decide +kernel, by rw [cs_empty]; exact .nil, fun d hd => by rw [cs_empty] at hd; cases hd⟩
      · rintro i x σ H3 H4 hi ⟨at_, z, v, rfl, a3, h1, h2, h3, h4, h5⟩ ⟨rfl, rfl⟩
        have hi' : i < n := by omega
        refine ⟨_, rfl, _, _, rfl, rfl, _, rfl, _, rfl, _, _, rfl, rfl, _, rfl, _, _, rfl, rfl, _, rfl, _, _, rfl, rfl, G, s, c, ns, _, rfl, a3.wd, by omega, fun H5 r a5 r0 r1 => ⟨_, _, rfl, rfl, ?_⟩⟩
        have r2 : at_ + 1 + r ≤ 26 - n + i := by omega
        have hat : (cs abc)[(at_ + 1 + r).toNat]? = some (97 + (at_ + 1 + r).toNat) := abc_at (by omega)
        have sz1 : ∀ q : Nat, (⟨#[q]⟩ : Str).length = 1 := fun _ => rfl
        refine ⟨_, rfl, _, rfl, _, rfl, _, _, _, rfl, rfl, small_sz (by rw [show (("abcdefghijklmnopqrstuvwxyz" : Str)) = abc from rfl, abc_len]; decide), atI_int (by omega) hat, _, _, rfl, rfl, small_sz (by rw [sz1]; omega), ?_⟩
        refine ⟨at_ + 1 + r, _, _, rfl, a3.trans a5, by omega, by omega, ?_, ?_, ?_⟩
        · rw [← cs_len, cs_app, List.length_append, cs_len, h3]; rfl
        · rw [cs_app, List.pairwise_append]
          refine ⟨h4, List.pairwise_singleton _ _, fun p hp q hq => ?_⟩
          have e : q = 97 + (at_ + 1 + r).toNat := by simpa using hq
          have := h5 p hp
          omega
        · intro q hq
          rw [cs_app] at hq
          rcases List.mem_append.mp hq with hq | hq
          · have := h5 q hq
            omega
          · have e : q = 97 + (at_ + 1 + r).toNat := by simpa using hq
            omega
      · rintro σ H3 ⟨at_, z, v, rfl, a3, h1, h2, h3, h4, h5⟩
        have e : (n : Int).toNat = n := by omega
        rw [e] at h2 h3
        refine ⟨_, rfl, k _ _ a3 ⟨h4, fun q hq => ?_, by omega, by omega⟩⟩
        have := h5 q hq
        omega
/-- a word over the letters of at most limit letters -/
def sp_word : Sp := fun vs H Q _ => ∃ (G : Hp) (s c : Addr) (ns : List Int) (x : Str) (limit : Nat), vs = [.ref s, .str x, .int limit] ∧ Wd (.at_ s c ns) G H ∧ 1 ≤ x.length ∧ x.length ≤ 4 ∧ limit ≤ 1000 ∧
  ∀ (H' : Hp) (y : Str), Aft (.at_ s c ns) G H H' → Over x y → y.length ≤ limit → Q (.str y) H'
theorem rep_one_len (d n : Nat) : (repS ⟨#[d]⟩ n).length = n := by
  rw [repS_len]
  show n * 1 = n
  omega
abbrev s_law_word : Stmt := (top 48)
abbrev N_law_word : List Str := ["_law_store_here", "_law_letters_here", "_law_limit", "_law_draw", "_law_size", "_law_k"]
theorem sc_law_word : FnScope ["_law_store_here", "_law_letters_here", "_law_limit", "_law_draw", "_law_size", "_law_k"] ["_law_store_here", "_law_letters_here", "_law_limit"] (defScope s_law_word) := ⟨rfl, rfl, rfl, by decide +kernel, rfl, by decide +kernel, by decide +kernel⟩
theorem c_law_word (T : Top K mg) : Cal P w K mg base (4) "_law_word" (sp_word) := by
  refine cal_of (d_law_word T) (g_law_word T) (fun _ F => F.bindsN fun _ _ _ _ _ _ us hl => match us, hl with | [_, _, _], _ => rfl) sc_law_word (fun vs H Q E h => ?_) (fun cdv A outer s H vs Q E hroom h => ?_)
  · obtain ⟨G, s, c, ns, x, limit, rfl, hW, x1, x4, hl, k⟩ := h
    rfl
  obtain ⟨G, s, c, ns, x, limit, rfl, hW, x1, x4, hl, k⟩ := h
  refine ⟨_, (pss_cons (ps_set (i := 3) sc_law_word.nd rfl (Or.inl rfl) (pe_cl (c_law_take T) hroom (by decide) (by rfl) (pa_cons (pv 0) (pa_cons pe_int pa_nil))))
      (pss_cons (ps_if (PW.pt (pw_or (pt_cmpR op_eq (pv 3) pe_int (nomark _)) (pw_or1 (pt_cmpR op_lt (pv 2) pe_int (nomark _))))) (pss_one (ps_ret pe_str)) pss_nil)
      (pss_cons (ps_if (pt_cmpR op_eq (pv 3) pe_int (nomark _)) (pss_one (ps_ret (pe_op op_mulS (pe_cl (c_law_pick T) hroom (by decide) (by rfl) (pa_cons (pv 0) (pa_cons (pv 1) pa_nil))) (pv 2)))) pss_nil)
      (pss_cons (ps_set (i := 4) sc_law_word.nd rfl (Or.inl rfl) (pv 2))
      (pss_mid (ps_if (pt_cmpR op_gt (pv 3) pe_int (nomark _)) (pss_one (ps_set (i := 4) sc_law_word.nd rfl (Or.inl rfl) (pe_cl (c_law_take T) hroom (by decide) (by rfl) (pa_cons (pv 0) (pa_cons (pe_op op_add (pv 2) pe_int) pa_nil))))) pss_nil)
      (pss_cons (ps_if (pt_cmpR op_eq (pv 3) pe_int (nomark _)) (pss_one (ps_ret (pe_op op_mulS (pe_cl (c_law_pick T) hroom (by decide) (by rfl) (pa_cons (pv 0) (pa_cons (pv 1) pa_nil))) (pv 4)))) pss_nil)
      (pss_one (ps_ret (pe_join pe_str (pe_lc (own := [("_law_k", 5)]) rfl sc_law_word.nd (pi_range1 (by rfl) (f_range T) (pa_cons (pv 4) pa_nil)) (blkOk_by (own := [("_law_k", 5)]) (N := N_law_word) (sc := defScope s_law_word) (by decide +kernel)) (fun _ _ _ _ _ => (pg_name (i := 5) sc_law_word.nd rfl (Or.inl rfl))) (fun _ _ _ _ _ => pts_nil) (fun _ _ _ _ _ => (pe_cl (c_law_pick T) hroom (by decide) (by rfl) (pa_cons (pv 0) (pa_cons (pv 1) pa_nil)))))))))))))), ?_⟩
  have sz1 : ∀ q : Nat, (⟨#[q]⟩ : Str).length = 1 := fun _ => rfl
  refine ⟨_, rfl, G, s, c, ns, _, rfl, hW, by decide, fun H1 d a1 d0 d1 => ?_⟩
  have nothing : ∀ H', Aft (.at_ s c ns) G H H' → Q (.str "") H' := fun H' a => k H' "" a Over.empty (by rw [show ("" : Str).length = 0 from by decide +kernel]; exact Nat.zero_le _)
  refine ⟨_, rfl, rfl, _, rfl, ifD (fun e1 => nothing _ a1) (fun e1 => ?_)⟩
  refine ⟨_, rfl, _, _, rfl, rfl, _, rfl, ifD (fun e2 => nothing _ a1) (fun e2 => ?_)⟩
  refine ⟨_, rfl, rfl, _, rfl, ifD (fun e3 => ?_) (fun e3 => ?_)⟩
  · refine ⟨_, rfl, _, rfl, G, s, c, ns, _, rfl, a1.wd, .inl ⟨x, rfl, x1, by omega, fun H2 q a2 hq => ?_⟩⟩
    refine ⟨_, rfl, _, _, rfl, rfl, by rw [sz1]; decide, by omega, by omega, k _ _ (a1.trans a2) ((Over.one hq).rep _) (by rw [rep_one_len]; omega)⟩
  · -- the size
    refine ⟨_, rfl, fun σ H' => ∃ n : Nat, σ = [some (.ref s), some (.str x), some (.int limit), some (.int d), some (.int n), none] ∧ Aft (.at_ s c ns) G H H' ∧ n ≤ limit, ?_, ?_⟩
    · rintro σ H2 ⟨n, rfl, a2, hn⟩
      refine ⟨_, rfl, rfl, _, rfl, ifD (fun e4 => ?_) (fun e4 => ?_)⟩
      · refine ⟨_, rfl, _, rfl, G, s, c, ns, _, rfl, a2.wd, .inl ⟨x, rfl, x1, by omega, fun H3 q a3 hq => ?_⟩⟩
        refine ⟨_, rfl, _, _, rfl, rfl, by rw [sz1]; decide, by omega, by omega, k _ _ (a2.trans a3) ((Over.one hq).rep _) (by rw [rep_one_len]; omega)⟩
      · refine ⟨⟨_, rfl⟩, _, rfl, n, rfl, by omega, by omega, fun D hD => lc_it (walk_range (lo := 0) (n := (n : Int).toNat)) (fun i H' => ∃ ys : List Str, Hs (.at_ s c ns) G H2 G (upd nil D (.lst (ys.map V.str))) H' ∧ ys.length = i ∧ ∀ y ∈ ys, ∃ q ∈ cs x, y = ⟨#[q]⟩) ?_ (fun _ _ _ _ => trivial) ?_ ?_⟩
        · exact ⟨[], (Hs.start a2.wd).newM hD, rfl, fun _ h => by cases h⟩
        · rintro i _ H3 H4 hi ⟨ys, h3, e3, hy⟩ ⟨rfl, rfl⟩
          refine ⟨rfl, _, rfl, _, rfl, G, s, c, ns, _, rfl, h3.wd, .inl ⟨x, rfl, x1, by omega, fun H5 q a5 hq => ?_⟩⟩
          have h5 := h3.call a5
          refine ⟨ys.map V.str, h5.mm upd_same, by rw [List.length_map]; exact small_lt (by omega), ys ++ [⟨#[q]⟩], ?_, by rw [List.length_append, e3]; rfl, ?_⟩
          · have h6 := h5.set (o' := .lst (ys.map V.str ++ [.str ⟨#[q]⟩])) upd_same
            rw [upd_upd] at h6
            rw [List.map_append]
            refine ⟨⟨fun a o z => h6.wd.sub a o (grow_old z), ?_⟩, fun _ _ z => z, ?_, h6.but, h6.keep, h6.s0, fun a o z => ?_⟩
            · obtain ⟨_, _, _, i, b, t, e, b4, b5⟩ := h6.wd.sto
              obtain ⟨b1, b2, b3, _⟩ := h3.wd.sto
              exact ⟨b1, b2, b3, i, b, t, e, b4, b5⟩
            · exact fun _ _ _ z => z
            · obtain ⟨m1, m2, m3⟩ := h6.m a o z
              refine ⟨m1, ?_, m3⟩
              cases q : G a with
              | none => rfl
              | some u => rw [grow_old q] at m2; cases m2
          · intro y my
            rcases List.mem_append.mp my with my | my
            · exact hy y my
            · exact ⟨q, hq, by simpa using my⟩
        · rintro H3 ⟨ys, h3, e3, hy⟩
          obtain ⟨j1, j2⟩ := join_over hy
          have e : (n : Int).toNat = n := by omega
          rw [e] at e3
          have sum : ∀ l : List Str, (∀ y ∈ l, ∃ q ∈ cs x, y = ⟨#[q]⟩) → (l.map (·.length)).sum = l.length := by
            intro l
            induction l with
            | nil => intro _; rfl
            | cons y l ih =>
              intro h
              obtain ⟨q, _, e⟩ := h y List.mem_cons_self
              rw [List.map_cons, List.sum_cons, List.length_cons, ih fun z m => h z (List.mem_cons_of_mem _ m), e, sz1]
              omega
          refine ⟨_, D, ys, rfl, rfl, .inl (SqL.of (h3.mm upd_same)), ?_, k _ _ (a2.trans ⟨h3.but, h3.wd⟩) j1 (by rw [j2]; omega)⟩
          rw [sum ys hy, show ("" : Str).length = 0 from by decide +kernel]
          omega
    · refine ⟨_, rfl, _, _, rfl, rfl, _, rfl, ifD (fun e4 => ?_) (fun e4 => ?_)⟩
      · refine ⟨_, rfl, _, rfl, _, _, rfl, rfl, G, s, c, ns, _, rfl, a1.wd, by omega, fun H2 r a2 r0 r1 => ?_⟩
        exact ⟨r.toNat, by rw [show ((r.toNat : Nat) : Int) = r by omega]; rfl, a1.trans a2, by omega⟩
      · exact ⟨limit, rfl, a1, Nat.le_refl _⟩
end

end Lag

namespace Lag
open PySem PySem.Spec PyProof.Rows L2
/-! ### the draws: unlike words, readers' parts -/
section
variable {P : Program} {w : World} {K : PySem.W.Frag} {mg : Str → Option Value} {base : Heap}
/-- a word over the letters, one letter longer at most -/
def sp_unlike_word : Sp := fun vs H Q _ => ∃ (G : Hp) (s c : Addr) (ns : List Int) (x y : Str), vs = [.ref s, .str x, .str y] ∧ Wd (.at_ s c ns) G H ∧ Alph 4 x ∧ Over x y ∧ y.length ≤ 1000 ∧
  ∀ (H' : Hp) (z : Str), Aft (.at_ s c ns) G H H' → Over x z → z.length ≤ y.length + 1 → Q (.str z) H'
abbrev s_law_unlike_word : Stmt := (top 49)
abbrev N_law_unlike_word : List Str := ["_law_store_here", "_law_letters_here", "_law_word_here", "_law_draw", "_law_at", "_law_x"]
theorem sc_law_unlike_word : FnScope ["_law_store_here", "_law_letters_here", "_law_word_here", "_law_draw", "_law_at", "_law_x"] ["_law_store_here", "_law_letters_here", "_law_word_here"] (defScope s_law_unlike_word) := ⟨rfl, rfl, rfl, by decide +kernel, rfl, by decide +kernel, by decide +kernel⟩
theorem c_law_unlike_word (T : Top K mg) : Cal P w K mg base (4) "_law_unlike_word" (sp_unlike_word) := by
  refine cal_of (d_law_unlike_word T) (g_law_unlike_word T) (fun _ F => F.bindsN fun _ _ _ _ _ _ us hl => match us, hl with | [_, _, _], _ => rfl) sc_law_unlike_word (fun vs H Q E h => ?_) (fun cdv A outer s H vs Q E hroom h => ?_)
  · obtain ⟨G, s, c, ns, x, y, rfl, hW, hx, hy, yl, k⟩ := h
    rfl
  obtain ⟨G, s, c, ns, x, y, rfl, hW, hx, hy, yl, k⟩ := h
  refine ⟨_, (pss_cons (ps_set (i := 3) sc_law_unlike_word.nd rfl (Or.inl rfl) (pe_cl (c_law_take T) hroom (by decide) (by rfl) (pa_cons (pv 0) (pa_cons pe_int pa_nil))))
      (pss_cons (ps_set (i := 4) sc_law_unlike_word.nd rfl (Or.inr rfl) (pe_cl (c_law_take T) hroom (by decide) (by rfl) (pa_cons (pv 0) (pa_cons (pe_op op_add (pe_callB (call_lenK K rfl) (by rfl) (f_len T) PySem.boot_len (pa_cons (pv 2) pa_nil)) pe_int) pa_nil))))
      (pss_cons (ps_if (PW.pt (pw_or (pt_cmpR op_eq (pv 3) pe_int (nomark _)) (pw_or (pt_cmpR op_eq (pv 2) pe_str (nomark _)) (pw_or1 (PW.pt (pw_and (pt_cmpR op_eq (pv 3) pe_int (nomark _)) (pw_and1 (pt_cmpR op_eq (pe_callB (call_lenK K rfl) (by rfl) (f_len T) PySem.boot_len (pa_cons (pv 1) pa_nil)) pe_int (nomark _))))))))) (pss_one (ps_ret (pe_op op_add_str (pe_op op_add_str (pe_slice sl_str (pv 2) po_none (po_some (pv 4))) (pe_cl (c_law_pick T) hroom (by decide) (by rfl) (pa_cons (pv 0) (pa_cons (pv 1) pa_nil)))) (pe_slice sl_str (pv 2) (po_some (pv 4)) po_none)))) pss_nil)
      (pss_cons (ps_set (i := 4) sc_law_unlike_word.nd rfl (Or.inr rfl) (pe_cl (c_law_take T) hroom (by decide) (by rfl) (pa_cons (pv 0) (pa_cons (pe_callB (call_lenK K rfl) (by rfl) (f_len T) PySem.boot_len (pa_cons (pv 2) pa_nil)) pa_nil))))
      (pss_cons (ps_if (pt_cmpR op_eq (pv 3) pe_int (nomark _)) (pss_one (ps_ret (pe_op op_add_str (pe_slice sl_str (pv 2) po_none (po_some (pv 4))) (pe_slice sl_str (pv 2) (po_some (pe_op op_add (pv 4) pe_int)) po_none)))) pss_nil)
      (pss_one (ps_ret (pe_op op_add_str (pe_op op_add_str (pe_slice sl_str (pv 2) po_none (po_some (pv 4))) (pe_cl (c_law_pick T) hroom (by decide) (by rfl) (pa_cons (pv 0) (pa_cons (pe_lc (own := [("_law_x", 5)]) rfl sc_law_unlike_word.nd (pi_str (pv 1)) (blkOk_by (own := [("_law_x", 5)]) (N := N_law_unlike_word) (sc := defScope s_law_unlike_word) (by decide +kernel)) (fun _ _ _ _ _ => (pg_name (i := 5) sc_law_unlike_word.nd rfl (Or.inl rfl))) (fun _ _ _ _ _ => (pts_one (pt_cmpR op_ne (pv 5) (pe_ix ix_str (pv 2) (pv 4) (fun _ _ => rfl)) (nomark _)))) (fun _ _ _ _ _ => (pv 5))) pa_nil)))) (pe_slice sl_str (pv 2) (po_some (pe_op op_add (pv 4) pe_int)) po_none))))))))), ?_⟩
  have x1 := hx.one
  have x4 := hx.most
  have yz : y.length ≤ sizeLine := small_sz (by omega)
  refine ⟨_, rfl, G, s, c, ns, _, rfl, hW, by decide, fun H1 d a1 d0 d1 => ?_⟩
  refine ⟨_, rfl, _, rfl, _, y.length, rfl, ⟨yz, rfl⟩, _, _, rfl, rfl, G, s, c, ns, _, rfl, a1.wd, by omega, fun H2 p a2 p0 p1 => ?_⟩
  have a12 := a1.trans a2
  obtain ⟨n, rfl⟩ : ∃ n : Nat, p = (n : Int) := ⟨p.toNat, by omega⟩
  have hn : n ≤ y.length := by omega
  refine ⟨_, rfl, rfl, _, rfl, ifD (fun e1 => ?_) (fun e1 => ⟨_, rfl, rfl, _, rfl, ifD (fun e2 => ?_) (fun e2 => ⟨_, rfl, rfl, _, rfl, ifD (fun e3 => ⟨_, rfl, _, x.length, rfl, ⟨small_sz (by omega), rfl⟩, rfl, _, rfl, ifD (fun e4 => ?_) (fun e4 => ?_)⟩) (fun e3 => ?_)⟩)⟩)⟩
  iterate 3
    focus
      refine ⟨_, rfl, _, rfl, _, rfl, _, rfl, yz, _, rfl, _, rfl, G, s, c, ns, _, rfl, a12.wd, .inl ⟨x, rfl, x1, by omega, fun H3 q a3 hq => ?_⟩⟩
      have h1 := cut_head y n
      have h2 := cut_tail y n
      have h3 := one_len q
      have h4 := app_len (cutS y none (some (n : Int))) ⟨#[q]⟩
      have h5 := app_len (cutS y none (some (n : Int)) ++ ⟨#[q]⟩) (cutS y (some (n : Int)) none)
      refine ⟨_, _, rfl, rfl, small_sz (by omega), _, rfl, _, rfl, _, rfl, _, rfl, yz, _, _, rfl, rfl, small_sz (by omega), ?_⟩
      exact k _ _ (a12.trans a3) (((hy.cut _ _).app (Over.one hq)).app (hy.cut _ _)) (by omega)
  all_goals
    have ey : y.length ≠ 0 := fun z => dNot e2 (congrArg V.str (eq_empty.mpr (List.eq_nil_of_length_eq_zero ((cs_len y).trans z))))
    refine ⟨_, rfl, _, rfl, _, y.length, rfl, ⟨yz, rfl⟩, G, s, c, ns, _, rfl, a12.wd, by omega, fun H3 p a3 p0 p1 => ?_⟩
    have a13 := a12.trans a3
    obtain ⟨m, rfl⟩ : ∃ m : Nat, p = (m : Int) := ⟨p.toNat, by omega⟩
    have hm : m < y.length := by omega
  · have ed : d = 1 := by simpa using dOf e3
    have ex : x.length ≠ 1 := fun z => dNot e4 (by rw [z] <;> rfl)
    refine ⟨_, rfl, rfl, _, rfl, ifF (dF (by rw [ed]; decide)) ?_⟩
    obtain ⟨q0, hq0⟩ : ∃ q0, (cs y)[m]? = some q0 := get_lt (by rw [cs_len]; exact hm)
    refine ⟨_, rfl, _, rfl, _, rfl, _, rfl, yz, _, rfl, _, rfl, x, rfl, fun D hD => lc_it (walk_str (z := x)) (fun i H' => Own (.at_ s c ns) G H3 [(D, (((cs x).take i).filter fun q => decide (q ≠ q0)).map sg, (((cs x).take i).filter fun q => decide (q ≠ q0)).map dsg)] G H') ?_ (fun _ _ _ _ => trivial) ?_ ?_⟩
    · exact (Own.start a13.wd).newL hD .nil
    · rintro i v H4 H5 hi ho ⟨rfl, q, hq, rfl⟩
      have hq2 := cps_at hq
      refine ⟨rfl, _, rfl, _, rfl, _, rfl, _, _, _, rfl, rfl, yz, atI_nat hq0, rfl, _, rfl, ?_⟩
      rw [take_snoc hq2, List.filter_append]
      have lim : (((cs x).take i).filter fun q => decide (q ≠ q0)).length ≤ 4 := by
        have h1 := List.length_filter_le (fun q => decide (q ≠ q0)) ((cs x).take i)
        have h2 := List.length_take_le i (cs x)
        have h3 := List.length_take_le' i (cs x)
        rw [cs_len] at h3
        omega
      by_cases e : q = q0
      · refine ifF (by rw [e]; simp) ?_
        rw [List.filter_cons, if_neg (by simp [e]), List.filter_nil, List.append_nil]
        exact ho
      · refine ifT (by simpa using e) ⟨_, rfl, _, ho.at_ List.mem_cons_self, by rw [List.length_map]; exact small_lt (by omega), ?_⟩
        rw [List.filter_cons, if_pos (by simpa using e), List.filter_nil, List.map_append, List.map_append]
        exact ho.app (A := []) (.str ⟨#[q]⟩)
    · intro H4 ho
      have e : (cs x).take x.cps.size = cs x := by
        rw [List.take_of_length_le]
        rw [cs_len]; exact Nat.le_refl _
      rw [e] at ho
      have nS := ho.hs.nS (a := D) (ofL_mem ho.nd List.mem_cons_self)
      obtain ⟨c1, m1, m2⟩ := other_letter hx.asc (by rw [cs_len]; omega) q0
      have ne : 0 < ((cs x).filter fun q => decide (q ≠ q0)).length := List.length_pos_of_mem (List.mem_filter.mpr ⟨m1, by simpa using m2⟩)
      have le := List.length_filter_le (fun q => decide (q ≠ q0)) (cs x)
      rw [cs_len] at le
      refine ⟨G, s, c, ns, _, rfl, ho.wd, .inr ⟨D, _, rfl, ho.at_ List.mem_cons_self, fun z => nS z, by rw [List.length_map]; exact ne, by rw [List.length_map]; omega, fun H5 v a5 hv => ?_⟩⟩
      obtain ⟨q, mq, rfl⟩ := List.mem_map.mp hv
      have hq : q ∈ cs x := (List.mem_filter.mp mq).1
      have h1 := cut_head y m
      have h2 := cut_tail y (m + 1)
      have h3 := one_len q
      have h4 := app_len (cutS y none (some (m : Int))) ⟨#[q]⟩
      have h5 := app_len (cutS y none (some (m : Int)) ++ ⟨#[q]⟩) (cutS y (some ((m + 1 : Nat) : Int)) none)
      have aw : Aft (.at_ s c ns) G H H5 := (a13.trans (ho.aft a13.wd)).trans a5
      refine ⟨_, _, rfl, rfl, small_sz (by omega), _, rfl, _, rfl, _, _, rfl, rfl, _, rfl, _, rfl, yz, _, _, rfl, rfl, small_sz (by show _ + (cutS y (some ((m : Int) + 1)) none).length ≤ _; rw [show ((m : Int) + 1) = ((m + 1 : Nat) : Int) by omega]; omega), ?_⟩
      refine k _ _ aw (((hy.cut _ _).app (Over.one hq)).app (hy.cut _ _)) ?_
      show (_ ++ cutS y (some ((m : Int) + 1)) none).length ≤ _
      rw [show ((m : Int) + 1) = ((m + 1 : Nat) : Int) by omega]
      omega
  · have ed : d = 2 := by
      have h1 : d ≠ 0 := fun z => dNot e1 (by rw [z])
      have h2 : d ≠ 1 := fun z => dNot e3 (by rw [z])
      omega
    have h1 := cut_head y m
    have h2 := cut_tail y (m + 1)
    have h4 := app_len (cutS y none (some (m : Int))) (cutS y (some ((m + 1 : Nat) : Int)) none)
    refine ⟨_, rfl, rfl, _, rfl, ifT (dT (by rw [ed])) ?_⟩
    refine ⟨_, rfl, _, rfl, _, rfl, _, rfl, yz, _, rfl, _, rfl, _, _, rfl, rfl, _, rfl, _, rfl, yz, _, _, rfl, rfl, small_sz (by show _ + (cutS y (some ((m : Int) + 1)) none).length ≤ _; rw [show ((m : Int) + 1) = ((m + 1 : Nat) : Int) by omega]; omega), ?_⟩
    refine k _ _ a13 ((hy.cut _ _).app (hy.cut _ _)) ?_
    show (_ ++ cutS y (some ((m : Int) + 1)) none).length ≤ _
    rw [show ((m : Int) + 1) = ((m + 1 : Nat) : Int) by omega]
    omega
/-- parts of a reader, drawn: new -/
def RetPt (S : Sr) (G H : Hp) (n : Nat) (rd wr : Str) (Q : VK) : Prop := ∀ (H' : Hp) (v : V) (p : Pt), Aft S G H H' → Rep (grow G H H') v (dPt p) → p.rd = rd → p.wr = wr → OkPt n p → Q v H'
def sp_reader : Sp := fun vs H Q _ => ∃ (G : Hp) (s c : Addr) (ns : List Int) (rd wr : Str) (limit : Nat), vs = [.ref s, .str rd, .str wr, .int limit] ∧ Wd (.at_ s c ns) G H ∧ Alph 4 rd ∧ Alph 4 wr ∧ 1 ≤ limit ∧ limit ≤ 64 ∧
  RetPt (.at_ s c ns) G H 3 rd wr Q
abbrev s_law_reader : Stmt := (top 50)
abbrev N_law_reader : List Str := ["_law_store_here", "_law_read", "_law_write", "_law_limit", "_law_size", "_law_longest", "_law_kind", "_law_moves", "_law_finals", "_law_k", "_law_row", "_law_j", "_law_step", "_law_final"]
theorem sc_law_reader : FnScope ["_law_store_here", "_law_read", "_law_write", "_law_limit", "_law_size", "_law_longest", "_law_kind", "_law_moves", "_law_finals", "_law_k", "_law_row", "_law_j", "_law_step", "_law_final"] ["_law_store_here", "_law_read", "_law_write", "_law_limit"] (defScope s_law_reader) := ⟨rfl, rfl, rfl, by decide +kernel, rfl, by decide +kernel, by decide +kernel⟩
theorem c_law_reader (T : Top K mg) : Cal P w K mg base (5) "_law_reader" (sp_reader) := by
  refine cal_of (d_law_reader T) (g_law_reader T) (fun _ F => F.bindsN fun _ _ _ _ _ _ us hl => match us, hl with | [_, _, _, _], _ => rfl) sc_law_reader (fun vs H Q E h => ?_) (fun cdv A outer s H vs Q E hroom h => ?_)
  · obtain ⟨G, s, c, ns, rd, wr, limit, rfl, hW, hrd, hwr, l1, l64, k⟩ := h
    rfl
  obtain ⟨G, s, c, ns, rd, wr, limit, rfl, hW, hrd, hwr, l1, l64, k⟩ := h
  refine ⟨_, (pss_cons (ps_set (i := 4) sc_law_reader.nd rfl (Or.inl rfl) (pe_cl (c_law_between T) hroom (by decide) (by rfl) (pa_cons (pv 0) (pa_cons pe_int (pa_cons (pv 3) pa_nil)))))
      (pss_cons (ps_set (i := 5) sc_law_reader.nd rfl (Or.inl rfl) (pe_cl (c_law_pick T) hroom (by decide) (by rfl) (pa_cons (pv 0) (pa_cons (pe_lst (pa_cons pe_int (pa_cons pe_int (pa_cons pe_int (pa_cons pe_int (pa_cons pe_int (pa_cons pe_int pa_nil))))))) pa_nil))))
      (pss_cons (ps_set (i := 6) sc_law_reader.nd rfl (Or.inl rfl) (pe_cl (c_law_take T) hroom (by decide) (by rfl) (pa_cons (pv 0) (pa_cons pe_int pa_nil))))
      (pss_cons (ps_set (i := 7) sc_law_reader.nd rfl (Or.inl rfl) (pe_lst pa_nil))
      (pss_cons (ps_set (i := 8) sc_law_reader.nd rfl (Or.inl rfl) (pe_lst pa_nil))
      (pss_cons (ps_for PassesOwn.never rfl (pi_range1 (by rfl) (f_range T) (pa_cons (pv 4) pa_nil)) (pg_name (i := 9) sc_law_reader.nd rfl (Or.inl rfl))
      (pss_cons (ps_set (i := 10) sc_law_reader.nd rfl (Or.inl rfl) (pe_lst pa_nil))
      (pss_cons (ps_for PassesOwn.never rfl (pi_range1 (by rfl) (f_range T) (pa_cons (pe_callB (call_lenK K rfl) (by rfl) (f_len T) PySem.boot_len (pa_cons (pv 1) pa_nil)) pa_nil)) (pg_name (i := 11) sc_law_reader.nd rfl (Or.inl rfl))
      (pss_cons (ps_set (i := 12) sc_law_reader.nd rfl (Or.inl rfl) (pe_tup (pa_cons (pe_cl (c_law_word T) hroom (by decide) (by rfl) (pa_cons (pv 0) (pa_cons (pv 2) (pa_cons (pv 5) pa_nil)))) (pa_cons (pe_cl (c_law_take T) hroom (by decide) (by rfl) (pa_cons (pv 0) (pa_cons (pv 4) pa_nil))) pa_nil))))
      (pss_mid (ps_if (PW.pt (pw_and (pt_cmpR op_gt (pv 6) pe_int (nomark _)) (pw_and1 (pt_cmpR op_eq (pv 11) pe_int (nomark _))))) (pss_one (ps_set (i := 12) sc_law_reader.nd rfl (Or.inl rfl) (pe_tup (pa_cons (pe_ix (ix_tupK K rfl) (pv 12) pe_int (fun _ _ => rfl)) (pa_cons (pe_callB (call_min2 rfl) (by rfl) (f_min T) (by decide +kernel) (pa_cons (pe_op op_add (pv 9) pe_int) (pa_cons (pe_op op_sub (pv 4) pe_int) pa_nil))) pa_nil))))) pss_nil)
      (pss_mid (ps_if (PW.pt (pw_or (pt_cmpR op_eq (pv 6) pe_int (nomark _)) (pw_or1 (PW.pt (pw_and (pt_cmpR op_ne (pv 6) pe_int (nomark _)) (pw_and1 (pt_cmpR op_eq (pe_cl (c_law_take T) hroom (by decide) (by rfl) (pa_cons (pv 0) (pa_cons pe_int pa_nil))) pe_int (nomark _)))))))) (pss_one (ps_set (i := 12) sc_law_reader.nd rfl (Or.inl rfl) pe_non)) pss_nil)
      (pss_one (ps_expr (pe_bm PySem.F.plainAttrs_list PySem.F.slot_list_append PySem.F.type_list_append mt_append (pv 10) (pa_cons (pv 12) pa_nil))))))))
      (pss_cons (ps_expr (pe_bm PySem.F.plainAttrs_list PySem.F.slot_list_append PySem.F.type_list_append mt_append (pv 7) (pa_cons (pv 10) pa_nil)))
      (pss_cons (ps_set (i := 13) sc_law_reader.nd rfl (Or.inl rfl) (pe_cl (c_law_word T) hroom (by decide) (by rfl) (pa_cons (pv 0) (pa_cons (pv 2) (pa_cons (pv 5) pa_nil)))))
      (pss_mid (ps_if (PW.pt (pw_or (pt_cmpR op_eq (pv 6) pe_int (nomark _)) (pw_or1 (PW.pt (pw_and (pt_cmpR op_ne (pv 6) pe_int (nomark _)) (pw_and (pt_cmpR op_lt (pv 9) (pe_op op_sub (pv 4) pe_int) (nomark _)) (pw_and1 (pt_cmpR op_eq (pe_cl (c_law_take T) hroom (by decide) (by rfl) (pa_cons (pv 0) (pa_cons pe_int pa_nil))) pe_int (nomark _))))))))) (pss_one (ps_set (i := 13) sc_law_reader.nd rfl (Or.inl rfl) pe_non)) pss_nil)
      (pss_one (ps_expr (pe_bm PySem.F.plainAttrs_list PySem.F.slot_list_append PySem.F.type_list_append mt_append (pv 8) (pa_cons (pv 13) pa_nil))))))))))
      (pss_one (ps_ret (pe_tup (pa_cons (pv 1) (pa_cons (pv 2) (pa_cons (pe_cl (c_law_word T) hroom (by decide) (by rfl) (pa_cons (pv 0) (pa_cons (pv 2) (pa_cons (pv 5) pa_nil)))) (pa_cons (pv 7) (pa_cons (pv 8) pa_nil)))))))))))))), ?_⟩
  have w1 := hwr.one
  have w4 := hwr.most
  have r1 := hrd.one
  have r4 := hrd.most
  refine ⟨_, rfl, _, rfl, G, s, c, ns, _, _, rfl, hW, by omega, by omega, fun H1 z a1 z1 z2 => ?_⟩
  obtain ⟨size, rfl⟩ : ∃ n : Nat, z = (n : Int) := ⟨z.toNat, by omega⟩
  have s1 : 1 ≤ size := by omega
  have s64 : size ≤ 64 := by omega
  have o1 := (Own.start hW).call a1
  refine ⟨_, rfl, by show 6 ≤ sizeLine; decide, fun a ha => ?_⟩
  have o2 := o1.drop (o := .lst [.int 0, .int 1, .int 1, .int 2, .int 2, .int 3]) ha
  refine ⟨_, s, c, ns, _, rfl, o2.wd, .inr ⟨a, _, rfl, upd_same, fun q => o1.hs.fS ha q, by decide, by decide, fun H2 x a2 hx => ?_⟩⟩
  obtain ⟨lo, rfl, lo3⟩ : ∃ l : Nat, x = .int l ∧ l ≤ 3 := by
    simp only [List.mem_cons, List.not_mem_nil, or_false] at hx
    rcases hx with e | e | e | e | e | e <;> first
      | exact ⟨0, e, by decide⟩
      | exact ⟨1, e, by decide⟩
      | exact ⟨2, e, by decide⟩
      | exact ⟨3, e, by decide⟩
  have o3 := o2.call a2
  refine ⟨_, rfl, _, s, c, ns, _, rfl, o3.wd, by decide, fun H3 kind a3 _ _ => ?_⟩
  have o4 := o3.call a3
  refine ⟨Nat.zero_le _, fun m hm => ?_⟩
  have o5 := o4.newL (vs := []) (ds := []) hm .nil
  refine ⟨Nat.zero_le _, fun f hf => ?_⟩
  have o6 := o5.newL (vs := []) (ds := []) hf .nil
  clear o1 o2 o3 o4 o5
  refine ⟨_, rfl, size, rfl, by omega, by omega, for_it (walk_range (lo := 0) (n := (size : Int).toNat)) (fun i σ H' => ∃ (G' : Hp) (rows : List (List Mv)) (fis : List (Option Str)) (mvs fvs : List V) (v9 v10 v11 v12 v13 : Option V),
    σ = [some (.ref s), some (.str rd), some (.str wr), some (.int limit), some (.int size), some (.int lo), some (.int kind), some (.ref m), some (.ref f), v9, v10, v11, v12, v13] ∧
    Own (.at_ s c ns) G H [(f, fvs, fis.map dFin), (m, mvs, rows.map dRow)] G' H' ∧ rows.length = i ∧ fis.length = i ∧ (∀ r ∈ rows, OkRow 3 rd wr size r) ∧ (∀ q ∈ fis, OkFi 3 wr q)) ?_ (fun _ _ _ _ _ => trivial) ?_ ?_⟩
  · exact ⟨_, [], [], [], [], _, _, _, _, _, rfl, o6, rfl, rfl, fun _ h => (by cases h), fun _ h => (by cases h)⟩
  · rintro i x σ Ha Hb hi ⟨Ga, rows, fis, mvs, fvs, v9, v10, v11, v12, v13, rfl, oa, er, ef, hr1, hf1⟩ ⟨rfl, rfl⟩
    have hi' : i < size := by omega
    refine ⟨Nat.zero_le _, fun r hr => ?_⟩
    have ob := oa.newL (vs := []) (ds := []) hr .nil
    refine ⟨_, rfl, _, rd.length, rfl, ⟨small_sz (by omega), rfl⟩, rd.length, rfl, by omega, by omega, for_it (walk_range (lo := 0) (n := (rd.length : Int).toNat)) (fun j σ H' => ∃ (G' : Hp) (row : List Mv) (rvs : List V) (v11 v12 : Option V),
      σ = [some (.ref s), some (.str rd), some (.str wr), some (.int limit), some (.int size), some (.int lo), some (.int kind), some (.ref m), some (.ref f), some (.int (0 + (i : Nat))), some (.ref r), v11, v12, v13] ∧
      Own (.at_ s c ns) G H [(r, rvs, row.map dMv), (f, fvs, fis.map dFin), (m, mvs, rows.map dRow)] G' H' ∧ row.length = j ∧ ∀ q ∈ row, OkMv 3 wr size q) ?_ (fun _ _ _ _ _ => trivial) ?_ ?_⟩
    · exact ⟨_, [], [], _, _, rfl, ob, rfl, fun _ h => (by cases h)⟩
    · rintro j x σ Hc Hd hj ⟨Gc, row, rvs, v11, v12, rfl, oc, ej, hrow⟩ ⟨rfl, rfl⟩
      -- step = (word, state)
      refine ⟨_, rfl, _, rfl, _, rfl, Gc, s, c, ns, wr, lo, rfl, oc.wd, w1, w4, by omega, fun H4 y a4 y1 y2 => ?_⟩
      have od := oc.call a4
      refine ⟨_, rfl, _, rfl, _, s, c, ns, _, rfl, od.wd, by omega, fun H5 t a5 t0 t1 => ?_⟩
      have oe := od.call a5
      obtain ⟨tn, rfl⟩ : ∃ n : Nat, t = (n : Int) := ⟨t.toNat, by omega⟩
      refine ⟨by show 2 ≤ sizeLine; decide, fun p hp => ?_⟩
      have of := oe.newG (o := .tup [.str y, .int tn]) hp
      -- the step may lead on to the next state
      refine ⟨fun σ' H' => ∃ (G' : Hp) (p : Addr) (t : Nat), σ' = [some (.ref s), some (.str rd), some (.str wr), some (.int limit), some (.int size), some (.int lo), some (.int kind), some (.ref m), some (.ref f), some (.int (0 + (i : Nat))), some (.ref r), some (.int (0 + (j : Nat))), some (.ref p), v13] ∧
        Own (.at_ s c ns) G H [(r, rvs, row.map dMv), (f, fvs, fis.map dFin), (m, mvs, rows.map dRow)] G' H' ∧ G' p = some (.tup [.str y, .int t]) ∧ t < size, ?_, ?_⟩
      · rintro σ' H6 ⟨G6, p, t, rfl, og, hp, ht⟩
        -- or there is none
        refine ⟨fun σ' H' => ∃ (G' : Hp) (v : V) (mv : Mv), σ' = [some (.ref s), some (.str rd), some (.str wr), some (.int limit), some (.int size), some (.int lo), some (.int kind), some (.ref m), some (.ref f), some (.int (0 + (i : Nat))), some (.ref r), some (.int (0 + (j : Nat))), some v, v13] ∧
          Own (.at_ s c ns) G H [(r, rvs, row.map dMv), (f, fvs, fis.map dFin), (m, mvs, rows.map dRow)] G' H' ∧ Rep G' v (dMv mv) ∧ OkMv 3 wr size mv, ?_, ?_⟩
        · rintro σ' H7 ⟨G7, v, mv, rfl, oh, hv, hok⟩
          have len : rvs.length = (row.map dMv).length := (oh.rep _ List.mem_cons_self).length
          rw [List.length_map] at len
          refine ⟨_, rfl, .inl ⟨rfl, _, SqL.of (oh.at_ List.mem_cons_self)⟩, _, rfl, r, _, _, rfl, rfl, oh.at_ List.mem_cons_self, small_lt (by show rvs.length ≤ _; omega), ?_⟩
          have oi := oh.app (A := []) hv
          rw [reps_snoc dMv] at oi
          exact ⟨G7, row ++ [mv], _, _, _, rfl, oi, by rw [List.length_append, ej]; rfl, fun q hq => (List.mem_append.mp hq).elim (hrow q) fun e => by rw [List.mem_singleton.mp e]; exact hok⟩
        · refine ⟨_, rfl, rfl, _, rfl, ifD (fun _ => ?_) (fun _ => ⟨_, rfl, rfl, _, rfl, ifD (fun _ => ⟨_, rfl, G6, s, c, ns, _, rfl, og.wd, by decide, fun H7 q a7 _ _ => ⟨rfl, _, rfl, ifD (fun _ => ?_) (fun _ => ?_)⟩⟩) (fun _ => ?_)⟩)⟩
          · exact ⟨G6, .non, none, rfl, og, .non, fun _ _ e => by cases e⟩
          · exact ⟨_, .non, none, rfl, og.call a7, .non, fun _ _ e => by cases e⟩
          · exact ⟨_, .ref p, some (y, t), rfl, og.call a7, Rep.mv_ (grow_old hp), fun y' t' e => by cases e; exact ⟨⟨y1, by omega⟩, ht⟩⟩
          · exact ⟨_, .ref p, some (y, t), rfl, og, Rep.mv_ hp, fun y' t' e => by cases e; exact ⟨⟨y1, by omega⟩, ht⟩⟩
      · refine ⟨_, rfl, _, _, rfl, rfl, _, rfl, ifD (fun _ => ⟨_, rfl, rfl, _, rfl, ifD (fun _ => ?_) (fun _ => ?_)⟩) (fun _ => ?_)⟩
        · refine ⟨_, rfl, p, _, _, _, rfl, rfl, SqT.of upd_same, rfl, _, rfl, _, _, rfl, rfl, _, rfl, _, _, rfl, rfl, _, _, rfl, by show 2 ≤ sizeLine; decide, fun p2 hp2 => ?_⟩
          obtain ⟨t2, e2, ht2⟩ : ∃ n : Nat, (if ((size : Int) - 1) < ((0 : Int) + (i : Nat) + 1) then ((size : Int) - 1) else ((0 : Int) + (i : Nat) + 1)) = (n : Int) ∧ n < size := by
            split
            · exact ⟨size - 1, by omega, by omega⟩
            · exact ⟨i + 1, by omega, by omega⟩
          rw [e2]
          exact ⟨_, p2, t2, rfl, of.newG hp2, upd_same, ht2⟩
        · exact ⟨_, p, tn, rfl, of, upd_same, by omega⟩
        · exact ⟨_, p, tn, rfl, of, upd_same, by omega⟩
    · -- behind the row
      rintro σ Hc ⟨Gc, row, rvs, v11, v12, rfl, oc, ej, hrow⟩
      rw [show (rd.length : Int).toNat = rd.length by omega] at ej
      obtain ⟨od, rr⟩ := oc.fin
      have lm : mvs.length = (rows.map dRow).length := (od.rep (m, mvs, rows.map dRow) (by simp)).length
      rw [List.length_map] at lm
      refine ⟨_, rfl, .inl ⟨rfl, _, SqL.of (od.at_ (x := (m, mvs, rows.map dRow)) (by simp))⟩, _, rfl, m, _, _, rfl, rfl, od.at_ (x := (m, mvs, rows.map dRow)) (by simp), small_lt (by show mvs.length ≤ _; omega), ?_⟩
      have oe := od.app (A := [(f, fvs, fis.map dFin)]) (d := dRow row) rr
      rw [reps_snoc dRow] at oe
      have hrows : ∀ q ∈ rows ++ [row], OkRow 3 rd wr size q := fun q hq => (List.mem_append.mp hq).elim (hr1 q) fun e => by rw [List.mem_singleton.mp e]; exact ⟨ej, hrow⟩
      have erows : (rows ++ [row]).length = i + 1 := by rw [List.length_append, er]; rfl
      -- final = word
      refine ⟨_, rfl, _, rfl, _, rfl, _, s, c, ns, wr, lo, rfl, oe.wd, w1, w4, by omega, fun H4 y a4 y1 y2 => ?_⟩
      have of := oe.call a4
      refine ⟨fun σ' H' => ∃ (G' : Hp) (v : V) (q : Option Str), σ' = [some (.ref s), some (.str rd), some (.str wr), some (.int limit), some (.int size), some (.int lo), some (.int kind), some (.ref m), some (.ref f), some (.int (0 + (i : Nat))), some (.ref r), v11, v12, some v] ∧
        Own (.at_ s c ns) G H [(f, fvs, fis.map dFin), (m, mvs ++ [.ref r], (rows ++ [row]).map dRow)] G' H' ∧ Rep G' v (dFin q) ∧ OkFi 3 wr q, ?_, ?_⟩
      · rintro σ' H7 ⟨G7, v, q, rfl, og, hv, hok⟩
        have lf : fvs.length = (fis.map dFin).length := (og.rep _ List.mem_cons_self).length
        rw [List.length_map] at lf
        refine ⟨_, rfl, .inl ⟨rfl, _, SqL.of (og.at_ List.mem_cons_self)⟩, _, rfl, f, _, _, rfl, rfl, og.at_ List.mem_cons_self, small_lt (by show fvs.length ≤ _; omega), ?_⟩
        have oi := og.app (A := []) hv
        rw [reps_snoc dFin] at oi
        exact ⟨G7, rows ++ [row], fis ++ [q], _, _, _, _, _, _, _, rfl, oi, erows, by rw [List.length_append, ef]; rfl, hrows, fun e he => (List.mem_append.mp he).elim (hf1 e) fun z => by rw [List.mem_singleton.mp z]; exact hok⟩
      · refine ⟨_, rfl, rfl, _, rfl, ifD (fun _ => ?_) (fun _ => ⟨_, rfl, rfl, _, rfl, ifD (fun _ => ⟨_, rfl, _, rfl, _, _, rfl, rfl, _, _, rfl, rfl, _, rfl, ifD (fun _ => ⟨_, rfl, _, s, c, ns, _, rfl, of.wd, by decide, fun H7 q a7 _ _ => ⟨rfl, _, rfl, ifD (fun _ => ?_) (fun _ => ?_)⟩⟩) (fun _ => ?_)⟩) (fun _ => ?_)⟩)⟩
        · exact ⟨_, .non, none, rfl, of, .non, fun _ e => by cases e⟩
        · exact ⟨_, .non, none, rfl, of.call a7, .non, fun _ e => by cases e⟩
        · exact ⟨_, .str y, some y, rfl, of.call a7, .str y, fun y' e => by cases e; exact ⟨y1, by omega⟩⟩
        · exact ⟨_, .str y, some y, rfl, of, .str y, fun y' e => by cases e; exact ⟨y1, by omega⟩⟩
        · exact ⟨_, .str y, some y, rfl, of, .str y, fun y' e => by cases e; exact ⟨y1, by omega⟩⟩
  · rintro σ Ha ⟨Ga, rows, fis, mvs, fvs, v9, v10, v11, v12, v13, rfl, oa, er, ef, hr1, hf1⟩
    rw [show (size : Int).toNat = size by omega] at er ef
    refine ⟨_, rfl, _, rfl, _, rfl, _, rfl, _, rfl, Ga, s, c, ns, wr, lo, rfl, oa.wd, w1, w4, by omega, fun H4 y a4 y1 y2 => ?_⟩
    have ob := oa.call a4
    obtain ⟨oc, rf⟩ := ob.fin
    obtain ⟨od, rm⟩ := oc.fin
    refine ⟨_, rfl, _, rfl, by show 5 ≤ sizeLine; decide, fun p hp => ?_⟩
    have oe := od.newG (o := .tup [.str rd, .str wr, .str y, .ref m, .ref f]) hp
    have sm := same_new (o := .tup [.str rd, .str wr, .str y, .ref m, .ref f]) (od.hs.fG hp)
    have sm2 := same_new (o := .lst mvs) (oc.hs.m m (.lst mvs) (ofL_mem (x := (m, mvs, rows.map dRow)) oc.nd List.mem_cons_self)).2.1
    refine k _ _ ⟨rd, wr, y, rows, fis⟩ (oe.aft hW) (oe.out (.tup upd_same (.cons (.str rd) (.cons (.str wr) (.cons (.str y) (.cons (rm.mono sm) (.cons ((rf.mono sm2).mono sm) .nil))))))) rfl rfl ?_
    exact ⟨hrd, hwr, ⟨y1, Nat.le_trans y2 lo3⟩, by rw [er]; exact s1, by rw [er]; exact s64, fun r hr => by rw [er]; exact hr1 r hr, by rw [ef, er], hf1⟩
end

end Lag

namespace Lag
open PySem PySem.Spec PyProof.Rows L2
section
variable {P : Program} {w : World} {K : PySem.W.Frag} {mg : Str → Option Value} {base : Heap}
def sp_wide_reader : Sp := fun vs H Q _ => ∃ (G : Hp) (s c : Addr) (ns : List Int) (rd wr : Str) (size : Nat), vs = [.ref s, .str rd, .str wr, .int size] ∧ Wd (.at_ s c ns) G H ∧ Alph 4 rd ∧ Alph 4 wr ∧ 1 ≤ size ∧ size ≤ 64 ∧
  RetPt (.at_ s c ns) G H 3 rd wr Q
theorem rep_wrd {x : Str} {q n : Nat} (hq : q ∈ cs x) {m : Nat} (h : n ≤ m) : Wrd m x (repS ⟨#[q]⟩ n) := ⟨(Over.one hq).rep _, by rw [rep_one_len]; exact h⟩
theorem cmulL {i j : Int} (h1 : -1000000 < i) (h2 : i < 1000000) : CMul i j := .inl ⟨by omega, by omega⟩
abbrev s_law_wide_reader : Stmt := (top 52)
abbrev N_law_wide_reader : List Str := ["_law_store_here", "_law_read", "_law_write", "_law_size", "_law_step", "_law_part", "_law_sign", "_law_moves", "_law_k", "_law_row", "_law_finals", "_law_j"]
theorem sc_law_wide_reader : FnScope ["_law_store_here", "_law_read", "_law_write", "_law_size", "_law_step", "_law_part", "_law_sign", "_law_moves", "_law_k", "_law_row", "_law_finals", "_law_j"] ["_law_store_here", "_law_read", "_law_write", "_law_size"] (defScope s_law_wide_reader) := ⟨rfl, rfl, rfl, by decide +kernel, rfl, by decide +kernel, by decide +kernel⟩
theorem c_law_wide_reader (T : Top K mg) : Cal P w K mg base (4) "_law_wide_reader" (sp_wide_reader) := by
  refine cal_of (d_law_wide_reader T) (g_law_wide_reader T) (fun _ F => F.bindsN fun _ _ _ _ _ _ us hl => match us, hl with | [_, _, _, _], _ => rfl) sc_law_wide_reader (fun vs H Q E h => ?_) (fun cdv A outer s H vs Q E hroom h => ?_)
  · obtain ⟨G, s, c, ns, rd, wr, size, rfl, hW, hrd, hwr, s1, s64, k⟩ := h
    rfl
  obtain ⟨G, s, c, ns, rd, wr, size, rfl, hW, hrd, hwr, s1, s64, k⟩ := h
  refine ⟨_, (pss_cons (ps_set (i := 4) sc_law_wide_reader.nd rfl (Or.inr rfl) (pe_cl (c_law_take T) hroom (by decide) (by rfl) (pa_cons (pv 0) (pa_cons (pv 3) pa_nil))))
      (pss_cons (ps_set (i := 5) sc_law_wide_reader.nd rfl (Or.inl rfl) (pe_op op_add pe_int (pe_cl (c_law_take T) hroom (by decide) (by rfl) (pa_cons (pv 0) (pa_cons pe_int pa_nil)))))
      (pss_cons (ps_set (i := 6) sc_law_wide_reader.nd rfl (Or.inr rfl) (pe_cl (c_law_pick T) hroom (by decide) (by rfl) (pa_cons (pv 0) (pa_cons (pv 2) pa_nil))))
      (pss_cons (ps_set (i := 7) sc_law_wide_reader.nd rfl (Or.inl rfl) (pe_lst pa_nil))
      (pss_cons (ps_for PassesOwn.never rfl (pi_range1 (by rfl) (f_range T) (pa_cons (pv 3) pa_nil)) (pg_name (i := 8) sc_law_wide_reader.nd rfl (Or.inr rfl))
      (pss_cons (ps_setLc (i := 9) (own := [("_law_j", 11)]) rfl sc_law_wide_reader.nd rfl rfl (sw_true rfl rfl rfl (by decide +kernel)) (pi_range1 (by rfl) (f_range T) (pa_cons (pe_callB (call_lenK K rfl) (by rfl) (f_len T) PySem.boot_len (pa_cons (pv 1) pa_nil)) pa_nil)) (blkOk_by (own := [("_law_j", 11)]) (N := N_law_wide_reader) (sc := defScope s_law_wide_reader) (by decide +kernel)) (fun _ _ _ _ _ => (pg_name (i := 11) sc_law_wide_reader.nd rfl (Or.inl rfl))) (fun _ _ _ _ _ => pts_nil) (fun _ _ _ _ _ => (pe_tup (pa_cons (pe_op op_mulS (pv 6) (pe_op op_mod (pe_callTy call_int1 (by rfl) (f_int T) (by decide +kernel) (pa_cons (pe_op op_add (pv 8) (pv 11)) pa_nil)) pe_int)) (pa_cons (pe_op op_mod (pe_callTy call_int1 (by rfl) (f_int T) (by decide +kernel) (pa_cons (pe_op op_add (pe_op op_add (pe_op op_mul (pv 8) (pe_op op_add (pv 11) pe_int)) (pe_op op_mul (pv 11) (pv 4))) pe_int) pa_nil)) (pv 3)) pa_nil)))))
      (pss_one (ps_expr (pe_bm PySem.F.plainAttrs_list PySem.F.slot_list_append PySem.F.type_list_append mt_append (pv 7) (pa_cons (pv 9) pa_nil))))))
      (pss_cons (ps_setLc (i := 10) (own := [("_law_k", 8)]) rfl sc_law_wide_reader.nd rfl rfl (sw_true rfl rfl rfl (by decide +kernel)) (pi_range1 (by rfl) (f_range T) (pa_cons (pv 3) pa_nil)) (blkOk_by (own := [("_law_k", 8)]) (N := N_law_wide_reader) (sc := defScope s_law_wide_reader) (by decide +kernel)) (fun _ _ _ _ _ => (pg_name (i := 8) sc_law_wide_reader.nd rfl (Or.inl rfl))) (fun _ _ _ _ _ => pts_nil) (fun _ _ _ _ _ => pe_non))
      (pss_cons (ps_for PassesOwn.never rfl (pi_range1 (by rfl) (f_range T) (pa_cons (pv 3) pa_nil)) (pg_name (i := 8) sc_law_wide_reader.nd rfl (Or.inr rfl))
      (pss_one (ps_if (pt_cmpR op_eq (pe_op op_mod (pe_callTy call_int1 (by rfl) (f_int T) (by decide +kernel) (pa_cons (pe_op op_add (pv 8) (pv 4)) pa_nil)) (pv 5)) pe_int (nomark _)) (pss_one (ps_asg (pe_op op_mulS (pv 6) (pe_op op_mod (pe_callTy call_int1 (by rfl) (f_int T) (by decide +kernel) (pa_cons (pv 8) pa_nil)) pe_int)) (pg_sub (pv 10) (pv 8) set_list))) pss_nil)))
      (pss_one (ps_ret (pe_tup (pa_cons (pv 1) (pa_cons (pv 2) (pa_cons (pe_op op_mulS (pv 6) (pe_op op_mod (pe_callTy call_int1 (by rfl) (f_int T) (by decide +kernel) (pa_cons (pv 4) pa_nil)) pe_int)) (pa_cons (pv 7) (pa_cons (pv 10) pa_nil))))))))))))))), ?_⟩
  have w1 := hwr.one
  have w4 := hwr.most
  have r1 := hrd.one
  have r4 := hrd.most
  have mod4 := fun x : Int => modLt x 4 (by decide)
  have mod3 := fun x : Int => modLt x 3 (by decide)
  have modS := fun x : Int => modLt x size (by omega)
  refine ⟨_, rfl, _, rfl, G, s, c, ns, _, rfl, hW, by omega, fun H1 step a1 st0 st1 => ?_⟩
  have o1 := (Own.start hW).call a1
  refine ⟨_, rfl, _, s, c, ns, _, rfl, o1.wd, by decide, fun H2 part a2 p0 p1 => ⟨_, _, rfl, rfl, ?_⟩⟩
  have o2 := o1.call a2
  refine ⟨_, rfl, _, rfl, _, s, c, ns, _, rfl, o2.wd, .inl ⟨wr, rfl, w1, by omega, fun H3 q a3 hq => ?_⟩⟩
  have o3 := o2.call a3
  refine ⟨Nat.zero_le _, fun m hm => ?_⟩
  have o4 := o3.newL (vs := []) (ds := []) hm .nil
  clear o1 o2 o3
  refine ⟨_, rfl, size, rfl, by omega, by omega, for_it (walk_range (lo := 0) (n := (size : Int).toNat)) (fun i σ H' => ∃ (G' : Hp) (rows : List (List Mv)) (mvs : List V) (v8 v9 v10 v11 : Option V),
    σ = [some (.ref s), some (.str rd), some (.str wr), some (.int size), some (.int step), some (.int (1 + part)), some (.str ⟨#[q]⟩), some (.ref m), v8, v9, v10, v11] ∧
    Own (.at_ s c ns) G H [(m, mvs, rows.map dRow)] G' H' ∧ rows.length = i ∧ (∀ r ∈ rows, OkRow 3 rd wr size r)) ?_ (fun _ _ _ _ _ => trivial) ?_ ?_⟩
  · exact ⟨_, [], [], _, _, _, _, rfl, o4, rfl, fun _ h => (by cases h)⟩
  · rintro i x σ Ha Hb hi ⟨Ga, rows, mvs, v8, v9, v10, v11, rfl, oa, er, hr1⟩ ⟨rfl, rfl⟩
    have hi' : i < size := by omega
    refine ⟨_, rfl, _, rd.length, rfl, ⟨small_sz (by omega), rfl⟩, rd.length, rfl, by omega, by omega, fun D hD => lc_it (walk_range (lo := 0) (n := (rd.length : Int).toNat)) (fun j H' => ∃ (G' : Hp) (row : List Mv) (rvs : List V),
      Own (.at_ s c ns) G H [(D, rvs, row.map dMv), (m, mvs, rows.map dRow)] G' H' ∧ row.length = j ∧ ∀ e ∈ row, OkMv 3 wr size e) ?_ (fun _ _ _ _ => trivial) ?_ ?_⟩
    · exact ⟨_, [], [], oa.newL (vs := []) (ds := []) hD .nil, rfl, fun _ h => (by cases h)⟩
    · rintro j x Hc Hd hj ⟨Gc, row, rvs, oc, ej, hrow⟩ ⟨rfl, rfl⟩
      have hj' : j < rd.length := by omega
      have len : rvs.length = (row.map dMv).length := (oc.rep _ List.mem_cons_self).length
      rw [List.length_map] at len
      have m4 := mod4 ((0 : Int) + (i : Nat) + ((0 : Int) + (j : Nat)))
      refine ⟨rfl, _, rfl, _, rfl, _, rfl, _, _, rfl, rfl, .inl ⟨_, rfl, _, _, rfl, rfl, (by decide : (0 : Int) < 4), _, _, rfl, rfl, by rw [one_len]; decide, by omega, by omega, ?_⟩⟩
      have mS := modS (((0 : Int) + (i : Nat)) * ((0 : Int) + (j : Nat) + 1) + ((0 : Int) + (j : Nat)) * step + 1)
      obtain ⟨t, ht⟩ : ∃ t : Nat, (((0 : Int) + (i : Nat)) * ((0 : Int) + (j : Nat) + 1) + ((0 : Int) + (j : Nat)) * step + 1) % size = (t : Int) := ⟨_, (Int.toNat_of_nonneg mS.1).symm⟩
      rw [ht] at mS
      refine ⟨_, rfl, _, rfl, _, _, rfl, rfl, _, _, rfl, rfl, cmulL (by omega) (by omega), _, rfl, _, rfl, _, _, rfl, rfl, cmulL (by omega) (by omega), _, _, rfl, rfl, _, _, rfl, rfl, .inl ⟨_, rfl, _, rfl, rI_eq (v := .int t) (by omega) (by show V.int (_ % _) = _; rw [ht]) ?_⟩⟩
      refine ⟨by show 2 ≤ sizeLine; decide, fun p hp => ?_⟩
      have od := oc.newG (o := .tup [.str (repS ⟨#[q]⟩ (((0 : Int) + (i : Nat) + ((0 : Int) + (j : Nat))) % 4).toNat), .int t]) hp
      have oe := od.app (A := []) (Rep.mv_ upd_same)
      rw [reps_snoc dMv] at oe
      refine ⟨rvs, od.at_ (x := (D, rvs, row.map dMv)) List.mem_cons_self, small_lt (by omega), _, row ++ [some (repS ⟨#[q]⟩ (((0 : Int) + (i : Nat) + ((0 : Int) + (j : Nat))) % 4).toNat, t)], rvs ++ [V.ref p], oe, by rw [List.length_append, ej]; rfl, fun e he => (List.mem_append.mp he).elim (hrow e) fun z => ?_⟩
      · rw [List.mem_singleton.mp z]
        intro y t' e
        cases e
        exact ⟨rep_wrd hq (by omega), by omega⟩
    · rintro Hc ⟨Gc, row, rvs, oc, ej, hrow⟩
      rw [show (rd.length : Int).toNat = rd.length by omega] at ej
      obtain ⟨od, rr⟩ := oc.fin
      have lm : mvs.length = (rows.map dRow).length := (od.rep (m, mvs, rows.map dRow) (by simp)).length
      rw [List.length_map] at lm
      refine ⟨_, rfl, .inl ⟨rfl, _, SqL.of (od.at_ List.mem_cons_self)⟩, _, rfl, m, _, _, rfl, rfl, od.at_ List.mem_cons_self, small_lt (by show mvs.length ≤ _; omega), ?_⟩
      have oe := od.app (A := []) (d := dRow row) rr
      rw [reps_snoc dRow] at oe
      exact ⟨_, rows ++ [row], _, _, _, _, _, rfl, oe, by rw [List.length_append, er]; rfl, fun e he => (List.mem_append.mp he).elim (hr1 e) fun z => by rw [List.mem_singleton.mp z]; exact ⟨ej, hrow⟩⟩
  · rintro σ Ha ⟨Ga, rows, mvs, v8, v9, v10, v11, rfl, oa, er, hr1⟩
    rw [show (size : Int).toNat = size by omega] at er
    refine ⟨_, rfl, size, rfl, by omega, by omega, fun f hf => lc_it (walk_range (lo := 0) (n := (size : Int).toNat)) (fun j H' => ∃ (fis : List (Option Str)) (fvs : List V),
      Own (.at_ s c ns) G H [(f, fvs, fis.map dFin), (m, mvs, rows.map dRow)] Ga H' ∧ fis.length = j ∧ ∀ e ∈ fis, OkFi 3 wr e) ?_ (fun _ _ _ _ => trivial) ?_ ?_⟩
    · exact ⟨[], [], oa.newL (vs := []) (ds := []) hf .nil, rfl, fun _ h => (by cases h)⟩
    · rintro j x Hc Hd hj ⟨fis, fvs, oc, ej, hfi⟩ ⟨rfl, rfl⟩
      have len : fvs.length = (fis.map dFin).length := (oc.rep _ List.mem_cons_self).length
      rw [List.length_map] at len
      have oe := oc.app (A := []) (v := .non) (d := dFin none) .non
      rw [reps_snoc dFin] at oe
      exact ⟨rfl, fvs, oc.at_ (x := (f, fvs, fis.map dFin)) List.mem_cons_self, small_lt (by omega), fis ++ [none], fvs ++ [V.non], oe, by rw [List.length_append, ej]; rfl, fun e he => (List.mem_append.mp he).elim (hfi e) fun z => by rw [List.mem_singleton.mp z]; intro y e; cases e⟩
    · rintro Hc ⟨fis, fvs, oc, ej, hfi⟩
      rw [show (size : Int).toNat = size by omega] at ej
      refine ⟨_, rfl, size, rfl, by omega, by omega, for_it (walk_range (lo := 0) (n := (size : Int).toNat)) (fun i σ H' => ∃ (fis : List (Option Str)) (fvs : List V) (v8 v9 v11 : Option V),
        σ = [some (.ref s), some (.str rd), some (.str wr), some (.int size), some (.int step), some (.int (1 + part)), some (.str ⟨#[q]⟩), some (.ref m), v8, v9, some (.ref f), v11] ∧
        Own (.at_ s c ns) G H [(f, fvs, fis.map dFin), (m, mvs, rows.map dRow)] Ga H' ∧ fis.length = size ∧ ∀ e ∈ fis, OkFi 3 wr e) ?_ (fun _ _ _ _ _ => trivial) ?_ ?_⟩
      · exact ⟨fis, fvs, _, _, _, rfl, oc, ej, hfi⟩
      · rintro i x σ Hd He hi ⟨fis, fvs, v8, v9, v11, rfl, od, ef, hfi⟩ ⟨rfl, rfl⟩
        have hi' : i < size := by omega
        have len : fvs.length = (fis.map dFin).length := (od.rep _ List.mem_cons_self).length
        rw [List.length_map] at len
        have m3 := mod3 ((0 : Int) + (i : Nat))
        refine ⟨_, rfl, _, rfl, _, _, rfl, rfl, .inl ⟨_, rfl, _, rfl, _, _, rfl, rfl, (by omega : (0 : Int) < 1 + part), rfl, _, rfl, ifD (fun _ => ?_) (fun _ => ?_)⟩⟩
        · refine ⟨_, rfl, _, rfl, .inl ⟨_, rfl, _, _, rfl, rfl, (by decide : (0 : Int) < 3), _, _, rfl, rfl, by rw [one_len]; decide, by omega, by omega, ?_⟩⟩
          refine ⟨_, rfl, _, rfl, f, fvs, _, i, rfl, rfl, od.at_ (x := (f, fvs, fis.map dFin)) List.mem_cons_self, ?_, ?_⟩
          · rw [ixN_int (by omega) (by omega)]
            congr 1
            omega
          · have oe := od.setAt (A := []) (v := .str (repS ⟨#[q]⟩ (((0 : Int) + (i : Nat)) % 3).toNat)) (d := dFin (some (repS ⟨#[q]⟩ (((0 : Int) + (i : Nat)) % 3).toNat))) i (.str _)
            rw [← List.map_set] at oe
            exact ⟨_, _, _, _, _, rfl, oe, by rw [List.length_set]; exact ef, fun e he => (List.mem_or_eq_of_mem_set he).elim (hfi e) fun z => by rw [z]; intro y e; cases e; exact rep_wrd hq (by omega)⟩
        · exact ⟨fis, fvs, _, _, _, rfl, od, ef, hfi⟩
      · rintro σ Hd ⟨fis, fvs, v8, v9, v11, rfl, od, ef, hfi⟩
        have m3 := mod3 step
        refine ⟨_, rfl, _, rfl, _, rfl, _, rfl, .inl ⟨_, rfl, _, _, rfl, rfl, (by decide : (0 : Int) < 3), _, _, rfl, rfl, by rw [one_len]; decide, by omega, by omega, ?_⟩⟩
        obtain ⟨oe, rf⟩ := od.fin
        obtain ⟨of, rm⟩ := oe.fin
        refine ⟨_, rfl, _, rfl, by show 5 ≤ sizeLine; decide, fun p hp => ?_⟩
        have og := of.newG (o := .tup [.str rd, .str wr, .str (repS ⟨#[q]⟩ (step % 3).toNat), .ref m, .ref f]) hp
        have sm := same_new (o := .tup [.str rd, .str wr, .str (repS ⟨#[q]⟩ (step % 3).toNat), .ref m, .ref f]) (of.hs.fG hp)
        have sm2 := same_new (o := .lst mvs) (oe.hs.m m (.lst mvs) (ofL_mem (x := (m, mvs, rows.map dRow)) oe.nd List.mem_cons_self)).2.1
        refine k _ _ ⟨rd, wr, _, rows, fis⟩ (og.aft hW) (og.out (.tup upd_same (.cons (.str rd) (.cons (.str wr) (.cons (.str _) (.cons (rm.mono sm) (.cons ((rf.mono sm2).mono sm) .nil))))))) rfl rfl ?_
        exact ⟨hrd, hwr, rep_wrd hq (by omega), by rw [er]; exact s1, by rw [er]; exact s64, fun r hr => by rw [er]; exact hr1 r hr, by rw [ef, er], hfi⟩
end

end Lag

namespace Lag
open PySem PySem.Spec PyProof.Rows L2
section
variable {P : Program} {w : World} {K : PySem.W.Frag} {mg : Str → Option Value} {base : Heap}
theorem near_end {S : Sr} {G0 H0 G H : Hp} {m f : Addr} {fvs : List V} {fi : List (Option Str)} {A : OwnL} {rows : List (List Mv)} (h : OwnX S G0 H0 m (.lst (refs A)) ((f, fvs, fi.map dFin) :: A) G H) (e : datas A = rows.map fun r => r.map dMv) :
    ∃ G', Same G G' ∧ Own S G0 H0 [] G' H ∧ Rep G' (.ref m) (dMoves rows) ∧ Rep G' (.ref f) (dFins fi) := by
  obtain ⟨h1, r1, s1⟩ := h.fin
  obtain ⟨G2, s2, h2, r2⟩ := OwnX.finAll (A := A) (L := []) (by rw [List.append_nil]; exact h1)
  have r3 := reps_rows r2
  have e2 : (A.map fun x => D.lst x.2.2) = rows.map dRow := by
    have z := congrArg (List.map D.lst) e
    rw [List.map_map, List.map_map] at z
    exact z
  rw [e2] at r3
  obtain ⟨h4, r4⟩ := (h2.own r3).fin
  exact ⟨_, (s1.trans s2).trans (same_new (h2.own r3 |>.hs.m m (.lst (refs A)) (ofL_mem (x := (m, refs A, rows.map dRow)) (h2.own r3).nd List.mem_cons_self)).2.1), h4, r4,
    (r1.mono s2).mono (same_new (h2.own r3 |>.hs.m m (.lst (refs A)) (ofL_mem (x := (m, refs A, rows.map dRow)) (h2.own r3).nd List.mem_cons_self)).2.1)⟩
theorem datas_at {A : OwnL} {rows : List (List Mv)} (e : datas A = rows.map fun r => r.map dMv) {k : Nat} {x : Addr × List V × List D} (h : A[k]? = some x) : ∃ row, rows[k]? = some row ∧ x.2.2 = row.map dMv := by
  have e2 : (datas A)[k]? = some x.2.2 := by
    show (A.map fun x => x.2.2)[k]? = _
    rw [List.getElem?_map, h]
    rfl
  rw [e, List.getElem?_map] at e2
  cases q : rows[k]? with
  | none => rw [q] at e2; cases e2
  | some row =>
    rw [q] at e2
    exact ⟨row, rfl, (Option.some.inj e2).symm⟩
def sp_near_reader : Sp := fun vs H Q _ => ∃ (G : Hp) (s c : Addr) (ns : List Int) (v : V) (p : Pt) (n : Nat), vs = [.ref s, v] ∧ Wd (.at_ s c ns) G H ∧ Rep G v (dPt p) ∧ OkPt n p ∧ 2 ≤ n ∧ n ≤ 399 ∧
  RetPt (.at_ s c ns) G H (n + 1) p.rd p.wr Q
abbrev s_law_near_reader : Stmt := (top 51)
abbrev N_law_near_reader : List Str := ["_law_store_here", "_law_parts", "_law_row", "_law_moves", "_law_finals", "_law_k", "_law_j", "_law_draw", "_law_step"]
theorem sc_law_near_reader : FnScope ["_law_store_here", "_law_parts", "_law_row", "_law_moves", "_law_finals", "_law_k", "_law_j", "_law_draw", "_law_step"] ["_law_store_here", "_law_parts"] (defScope s_law_near_reader) := ⟨rfl, rfl, rfl, by decide +kernel, rfl, by decide +kernel, by decide +kernel⟩
theorem c_law_near_reader (T : Top K mg) : Cal P w K mg base (5) "_law_near_reader" (sp_near_reader) := by
  refine cal_of (d_law_near_reader T) (g_law_near_reader T) (fun _ F => F.bindsN fun _ _ _ _ _ _ us hl => match us, hl with | [_, _], _ => rfl) sc_law_near_reader (fun vs H Q E h => ?_) (fun cdv A outer s H vs Q E hroom h => ?_)
  · obtain ⟨G, s, c, ns, v, p, n, rfl, hW, hv, hp, n2, n399, k⟩ := h
    rfl
  obtain ⟨G, s, c, ns, v, p, n, rfl, hW, hv, hp, n2, n399, k⟩ := h
  refine ⟨_, (pss_cons (ps_setLc (i := 3) (own := [("_law_row", 2)]) rfl sc_law_near_reader.nd rfl rfl (sw_true rfl rfl rfl (by decide +kernel)) (pi_listK K rfl (pe_ix (ix_tupK K rfl) (pv 1) pe_int (fun _ _ => rfl))) (blkOk_by (own := [("_law_row", 2)]) (N := N_law_near_reader) (sc := defScope s_law_near_reader) (by decide +kernel)) (fun _ _ _ _ _ => (pg_name (i := 2) sc_law_near_reader.nd rfl (Or.inl rfl))) (fun _ _ _ _ _ => pts_nil) (fun _ _ _ _ _ => (pe_callTy (call_list_ofK K rfl) (by rfl) (f_list T) (by decide +kernel) (pa_cons (pv 2) pa_nil))))
      (pss_cons (ps_set (i := 4) sc_law_near_reader.nd rfl (Or.inl rfl) (pe_callTy (call_list_ofK K rfl) (by rfl) (f_list T) (by decide +kernel) (pa_cons (pe_ix (ix_tupK K rfl) (pv 1) pe_int (fun _ _ => rfl)) pa_nil)))
      (pss_cons (ps_set (i := 5) sc_law_near_reader.nd rfl (Or.inl rfl) (pe_cl (c_law_take T) hroom (by decide) (by rfl) (pa_cons (pv 0) (pa_cons (pe_callB (call_len_seqK K rfl) (by rfl) (f_len T) PySem.boot_len (pa_cons (pv 3) pa_nil)) pa_nil))))
      (pss_cons (ps_set (i := 6) sc_law_near_reader.nd rfl (Or.inl rfl) (pe_cl (c_law_take T) hroom (by decide) (by rfl) (pa_cons (pv 0) (pa_cons (pe_callB (call_lenK K rfl) (by rfl) (f_len T) PySem.boot_len (pa_cons (pe_ix (ix_tupK K rfl) (pv 1) pe_int (fun _ _ => rfl)) pa_nil)) pa_nil))))
      (pss_cons (ps_set (i := 7) sc_law_near_reader.nd rfl (Or.inl rfl) (pe_cl (c_law_take T) hroom (by decide) (by rfl) (pa_cons (pv 0) (pa_cons pe_int pa_nil))))
      (pss_cons (ps_set (i := 2) sc_law_near_reader.nd rfl (Or.inl rfl) (pe_ix (ix_listK K rfl) (pv 3) (pv 5) (fun _ _ => rfl)))
      (pss_cons (ps_if (pt_cmpR op_eq (pv 7) pe_int (nomark _)) (pss_one (ps_ret (pe_tup (pa_cons (pe_ix (ix_tupK K rfl) (pv 1) pe_int (fun _ _ => rfl)) (pa_cons (pe_ix (ix_tupK K rfl) (pv 1) pe_int (fun _ _ => rfl)) (pa_cons (pe_cl (c_law_unlike_word T) hroom (by decide) (by rfl) (pa_cons (pv 0) (pa_cons (pe_ix (ix_tupK K rfl) (pv 1) pe_int (fun _ _ => rfl)) (pa_cons (pe_ix (ix_tupK K rfl) (pv 1) pe_int (fun _ _ => rfl)) pa_nil)))) (pa_cons (pv 3) (pa_cons (pv 4) pa_nil)))))))) pss_nil)
      (pss_mid (ps_if (PW.pt (pw_and (pt_cmpR op_eq (pv 7) pe_int (nomark _)) (pw_and1 (pt_cmp (pc_notN (pe_ix (ix_listK K rfl) (pv 4) (pv 5) (fun _ _ => rfl))))))) (pss_one (ps_asg pe_non (pg_sub (pv 4) (pv 5) set_list))) (pss_one (ps_if (pt_cmpR op_lt (pv 7) pe_int (nomark _)) (pss_one (ps_asg (pe_cl (c_law_unlike_word T) hroom (by decide) (by rfl) (pa_cons (pv 0) (pa_cons (pe_ix (ix_tupK K rfl) (pv 1) pe_int (fun _ _ => rfl)) (pa_cons (pe_orTK K rfl (pe_ix (ix_listK K rfl) (pv 4) (pv 5) (fun _ _ => rfl)) (pe_one pe_str)) pa_nil)))) (pg_sub (pv 4) (pv 5) set_list))) (pss_one (ps_if (pt_cmp (pc_isN (pe_ix (ix_listK K rfl) (pv 2) (pv 6) (fun _ _ => rfl)))) (pss_one (ps_asg (pe_tup (pa_cons (pe_cl (c_law_word T) hroom (by decide) (by rfl) (pa_cons (pv 0) (pa_cons (pe_ix (ix_tupK K rfl) (pv 1) pe_int (fun _ _ => rfl)) (pa_cons pe_int pa_nil)))) (pa_cons (pe_cl (c_law_take T) hroom (by decide) (by rfl) (pa_cons (pv 0) (pa_cons (pe_callB (call_len_seqK K rfl) (by rfl) (f_len T) PySem.boot_len (pa_cons (pv 3) pa_nil)) pa_nil))) pa_nil))) (pg_sub (pv 2) (pv 6) set_list))) (pss_cons (ps_set (i := 8) sc_law_near_reader.nd rfl (Or.inl rfl) (pe_ix (ix_listK K rfl) (pv 2) (pv 6) (fun _ _ => rfl)))
      (pss_cons (ps_asg pe_non (pg_sub (pv 2) (pv 6) set_list))
      (pss_cons (ps_if (pt_cmpR op_eq (pv 7) pe_int (nomark _)) (pss_one (ps_asg (pe_tup (pa_cons (pe_cl (c_law_unlike_word T) hroom (by decide) (by rfl) (pa_cons (pv 0) (pa_cons (pe_ix (ix_tupK K rfl) (pv 1) pe_int (fun _ _ => rfl)) (pa_cons (pe_ix (ix_tupK K rfl) (pv 8) pe_int (fun _ _ => rfl)) pa_nil)))) (pa_cons (pe_ix (ix_tupK K rfl) (pv 8) pe_int (fun _ _ => rfl)) pa_nil))) (pg_sub (pv 2) (pv 6) set_list))) pss_nil)
      (pss_one (ps_if (pt_cmpR op_eq (pv 7) pe_int (nomark _)) (pss_one (ps_asg (pe_tup (pa_cons (pe_ix (ix_tupK K rfl) (pv 8) pe_int (fun _ _ => rfl)) (pa_cons (pe_cl (c_law_take T) hroom (by decide) (by rfl) (pa_cons (pv 0) (pa_cons (pe_callB (call_len_seqK K rfl) (by rfl) (f_len T) PySem.boot_len (pa_cons (pv 3) pa_nil)) pa_nil))) pa_nil))) (pg_sub (pv 2) (pv 6) set_list))) pss_nil))))))))))
      (pss_one (ps_ret (pe_tup (pa_cons (pe_ix (ix_tupK K rfl) (pv 1) pe_int (fun _ _ => rfl)) (pa_cons (pe_ix (ix_tupK K rfl) (pv 1) pe_int (fun _ _ => rfl)) (pa_cons (pe_ix (ix_tupK K rfl) (pv 1) pe_int (fun _ _ => rfl)) (pa_cons (pv 3) (pa_cons (pv 4) pa_nil)))))))))))))))), ?_⟩
  obtain ⟨a, ma, fa, mvs, fvs, rfl, ha, hma, rma, hfa, rfa⟩ := hv.pt_inv
  have hp1 := hp.one
  have hp2 := hp.most
  have hp3 := hp.ard.one
  have hp4 := hp.ard.most
  have lm : mvs.length = p.mv.length := by
    have := rma.length
    rwa [List.length_map] at this
  have lf : fvs.length = p.fi.length := by
    have := rfa.length
    rwa [List.length_map] at this
  have efi := hp.fins
  refine ⟨_, rfl, a, _, _, _, rfl, rfl, SqT.of (hW.sub _ _ ha), rfl, ma, rfl, ⟨_, SqL.of (hW.sub _ _ hma)⟩, fun m hm => lc_it (walk_list (xs := mvs)) (fun i H' => ∃ A : OwnL, OwnX (.at_ s c ns) G H m (.lst (refs A)) A G H' ∧ A.length = i ∧ datas A = (p.mv.take i).map fun r => r.map dMv) ?_ ?_ ?_ ?_⟩
  · exact ⟨[], (Own.start hW).newX hm, rfl, rfl⟩
  · rintro i H' hi ⟨A, hA, _, _⟩
    exact SqL.of (hA.hs.g hma)
  · rintro i x H1 H2 hi ⟨A, hA, e1, e2⟩ ⟨rfl, hx⟩
    obtain ⟨row, hrow, hr⟩ := rma.mapAt hx
    obtain ⟨q, rvs, rfl, hq, rr⟩ := Rep.lst_inv (ds := row.map dMv) hr
    refine ⟨rfl, _, rfl, q, rvs, rfl, .inl (SqL.of (hA.hs.g hq)), fun l hl => ?_⟩
    refine ⟨refs A, ?_, by rw [List.length_map]; exact small_lt (by omega), A ++ [(l, rvs, row.map dMv)], ?_, by rw [List.length_append, e1]; rfl, ?_⟩
    · rw [upd_ne (hA.new_nX hl)]
      exact hA.atX
    · have h2 := (hA.newL hl rr).setX (o' := .lst (refs A ++ [.ref l]))
      have pm : ((l, rvs, row.map dMv) :: A).Perm (A ++ [(l, rvs, row.map dMv)]) := (List.perm_append_singleton _ _).symm
      refine ⟨h2.hs.less fun b o e => ?_, fun y my => h2.rep y (pm.mem_iff.mpr my), (pm.map _).nodup_iff.mp h2.nd, fun z => h2.nD ((pm.map _).mem_iff.mpr z)⟩
      have e3 : (refs (A ++ [(l, rvs, row.map dMv)])) = refs A ++ [.ref l] := by simp [refs]
      rw [e3] at e
      by_cases eb : b = m
      · rw [eb, upd_same] at e ⊢
        exact e
      · rw [upd_ne eb] at e ⊢
        obtain ⟨y, my, rfl⟩ := List.mem_map.mp (ofL_some e)
        rw [ofL_mem ((pm.map _).nodup_iff.mp h2.nd) my] at e
        rw [← e]
        exact ofL_mem h2.nd (pm.mem_iff.mpr my)
    · show (A ++ [(l, rvs, row.map dMv)]).map (fun x => x.2.2) = _
      rw [List.map_append, take_snoc hrow, List.map_append]
      show datas A ++ _ = _
      rw [e2]
      rfl
  · rintro H1 ⟨A, hA, e1, e2⟩
    rw [lm, List.take_length] at e2
    -- finals = list(parts[4])
    refine ⟨_, rfl, a, _, _, _, rfl, rfl, SqT.of (hA.hs.g ha), rfl, fa, fvs, rfl, .inl (SqL.of (hA.hs.g hfa)), fun f hf => ?_⟩
    have h1 := hA.newL hf rfa
    clear hA
    have lA : A.length = p.mv.length := by omega
    refine ⟨_, rfl, _, rfl, m, refs A, rfl, .inl (SqL.of h1.atX), G, s, c, ns, _, rfl, h1.wd, by rw [List.length_map]; omega, fun H2 kk a2 k0 k1 => ?_⟩
    have h2 := h1.call a2
    rw [List.length_map] at k1
    obtain ⟨kn, rfl⟩ : ∃ q : Nat, kk = (q : Int) := ⟨kk.toNat, by omega⟩
    have hkn : kn < A.length := by omega
    refine ⟨_, rfl, _, rfl, a, _, _, _, rfl, rfl, SqT.of (h2.hs.g (grow_old ha)), rfl, _, p.rd.length, rfl, ⟨small_sz (by omega), rfl⟩, _, s, c, ns, _, rfl, h2.wd, by omega, fun H3 jj a3 j0 j1 => ?_⟩
    have h3 := h2.call a3
    obtain ⟨jn, rfl⟩ : ∃ q : Nat, jj = (q : Int) := ⟨jj.toNat, by omega⟩
    have hjn : jn < p.rd.length := by omega
    refine ⟨_, rfl, _, s, c, ns, _, rfl, h3.wd, by decide, fun H4 dr a4 _ _ => ?_⟩
    have h4 := h3.call a4
    obtain ⟨x, hx⟩ := get_lt hkn
    obtain ⟨r, rvs, rds⟩ := x
    obtain ⟨row, hrow, erow⟩ := datas_at e2 hx
    have erow : rds = row.map dMv := erow
    subst erow
    have okrow := hp.rows row (List.mem_of_getElem? hrow)
    refine ⟨_, rfl, _, rfl, m, _, _, _, rfl, rfl, SqL.of h4.atX, atI_nat (by show (A.map _)[kn]? = _; rw [List.getElem?_map, hx]; rfl), ?_⟩
    have g1 : ∀ {b o}, G b = some o → grow (grow (grow G (upd H1 f (.lst fvs)) H2) H2 H3) H3 H4 b = some o := fun z => grow_old (grow_old (grow_old z))
    have oka : ∀ r ∈ p.mv, OkRow (n + 1) p.rd p.wr p.mv.length r := fun r mr => (hp.mono (Nat.le_succ n)).rows r mr
    have okf : ∀ q ∈ p.fi, OkFi (n + 1) p.wr q := fun q mq => (hp.mono (Nat.le_succ n)).fin q mq
    refine ⟨_, rfl, rfl, _, rfl, ifD (fun _ => ?_) (fun e0 => ?_)⟩
    · -- another first word
      refine ⟨_, rfl, a, _, _, _, rfl, rfl, SqT.of (h4.hs.g (g1 ha)), rfl, _, rfl, a, _, _, _, rfl, rfl, SqT.of (h4.hs.g (g1 ha)), rfl, _, rfl, _, rfl, a, _, _, _, rfl, rfl, SqT.of (h4.hs.g (g1 ha)), rfl, _, rfl, a, _, _, _, rfl, rfl, SqT.of (h4.hs.g (g1 ha)), rfl, _, s, c, ns, _, _, rfl, h4.wd, hp.awr, hp.first.1, Nat.le_trans hp.first.2 (by omega), fun H5 z a5 z1 z2 => ?_⟩
      obtain ⟨G6, s6, o6, rm, rf⟩ := near_end (h4.call a5) e2
      refine ⟨_, rfl, _, rfl, by show 5 ≤ sizeLine; decide, fun t ht => ?_⟩
      have o7 := o6.newG (o := .tup [.str p.rd, .str p.wr, .str z, .ref m, .ref f]) ht
      have sm := same_new (o := .tup [.str p.rd, .str p.wr, .str z, .ref m, .ref f]) (o6.hs.fG ht)
      refine k _ _ ⟨p.rd, p.wr, z, p.mv, p.fi⟩ (o7.aft hW) (o7.out (.tup upd_same (.cons (.str _) (.cons (.str _) (.cons (.str z) (.cons (rm.mono sm) (.cons (rf.mono sm) .nil))))))) rfl rfl ?_
      exact ⟨hp.ard, hp.awr, ⟨z1, Nat.le_trans z2 (Nat.succ_le_succ hp.first.2)⟩, hp.one, hp.most, oka, hp.fins, okf⟩
    · -- one place changed
      refine ⟨fun σ' H' => ∃ (G' : Hp) (A' : OwnL) (fvs' : List V) (rows' : List (List Mv)) (fi' : List (Option Str)) (v8 : Option V), σ' = [some (.ref s), some (.ref a), some (.ref r), some (.ref m), some (.ref f), some (.int kn), some (.int jn), some (.int dr), v8] ∧
        OwnX (.at_ s c ns) G H m (.lst (refs A')) ((f, fvs', fi'.map dFin) :: A') G' H' ∧ Same G G' ∧ datas A' = (rows'.map fun r => r.map dMv) ∧ rows'.length = p.mv.length ∧ fi'.length = p.mv.length ∧ (∀ r ∈ rows', OkRow (n + 1) p.rd p.wr p.mv.length r) ∧ (∀ q ∈ fi', OkFi (n + 1) p.wr q), ?_, ?_⟩
      · rintro σ' H5 ⟨G5, A', fvs', rows', fi', v8, rfl, h5, s5, e5, l5, f5, or5, of5⟩
        refine ⟨_, rfl, a, _, _, _, rfl, rfl, SqT.of (h5.hs.g (s5 _ _ ha)), rfl, _, rfl, a, _, _, _, rfl, rfl, SqT.of (h5.hs.g (s5 _ _ ha)), rfl, _, rfl, a, _, _, _, rfl, rfl, SqT.of (h5.hs.g (s5 _ _ ha)), rfl, _, rfl, _, rfl, by show 5 ≤ sizeLine; decide, fun t ht => ?_⟩
        obtain ⟨G6, s6, o6, rm, rf⟩ := near_end h5 e5
        have o7 := o6.newG (o := .tup [.str p.rd, .str p.wr, .str p.first, .ref m, .ref f]) ht
        have sm := same_new (o := .tup [.str p.rd, .str p.wr, .str p.first, .ref m, .ref f]) (o6.hs.fG ht)
        refine k _ _ ⟨p.rd, p.wr, p.first, rows', fi'⟩ (o7.aft hW) (o7.out (.tup upd_same (.cons (.str _) (.cons (.str _) (.cons (.str _) (.cons (rm.mono sm) (.cons (rf.mono sm) .nil))))))) rfl rfl ?_
        exact ⟨hp.ard, hp.awr, hp.first.mono (Nat.le_succ n), by rw [l5]; exact hp.one, by rw [l5]; exact hp.most, fun r mr => by rw [l5]; exact or5 r mr, by rw [f5, l5], of5⟩
      · have sG : Same G (grow (grow (grow G (upd H1 f (.lst fvs)) H2) H2 H3) H3 H4) := fun _ _ z => g1 z
        generalize grow (grow (grow G (upd H1 f (.lst fvs)) H2) H2 H3) H3 H4 = G4 at h4 sG
        clear g1 h1 h2 h3
        have hf4 : H4 f = some (.lst fvs) := h4.at_ (x := (f, fvs, p.fi.map dFin)) List.mem_cons_self
        have hr4 : H4 r = some (.lst rvs) := h4.at_ (x := (r, rvs, row.map dMv)) (List.mem_cons_of_mem _ (List.mem_of_getElem? hx))
        have rf4 : Reps G4 fvs (p.fi.map dFin) := h4.rep (f, fvs, p.fi.map dFin) List.mem_cons_self
        have rr4 : Reps G4 rvs (row.map dMv) := h4.rep (r, rvs, row.map dMv) (List.mem_cons_of_mem _ (List.mem_of_getElem? hx))
        have lr : rvs.length = p.rd.length := by
          have := rr4.length
          rw [List.length_map] at this
          exact this.trans okrow.1
        obtain ⟨fq, hfq⟩ : ∃ q, p.fi[kn]? = some q := get_lt (by omega)
        obtain ⟨fv, hfv, rfv⟩ := rf4.mapOf hfq
        obtain ⟨mq, hmq⟩ : ∃ q, row[jn]? = some q := get_lt (by have := okrow.1; omega)
        obtain ⟨mv, hmv, rmv⟩ := rr4.mapOf hmq
        have okm := okrow.2 mq (List.mem_of_getElem? hmq)
        -- what a changed final word, a changed move leave
        have putF : ∀ {G5 H5 : Hp} {v8 : Option V} (h5 : OwnX (.at_ s c ns) G H m (.lst (refs A)) ((f, fvs, p.fi.map dFin) :: A) G5 H5) (s5 : Same G4 G5) {v : V} {q : Option Str}, Rep G5 v (dFin q) → OkFi (n + 1) p.wr q →
            ∃ (G' : Hp) (A' : OwnL) (fvs' : List V) (rows' : List (List Mv)) (fi' : List (Option Str)) (v8' : Option V), [some (V.ref s), some (.ref a), some (.ref r), some (.ref m), some (.ref f), some (.int kn), some (.int jn), some (.int dr), v8] = [some (V.ref s), some (.ref a), some (.ref r), some (.ref m), some (.ref f), some (.int kn), some (.int jn), some (.int dr), v8'] ∧
            OwnX (.at_ s c ns) G H m (.lst (refs A')) ((f, fvs', fi'.map dFin) :: A') G' (upd H5 f (.lst (fvs.set kn v))) ∧ Same G G' ∧ datas A' = (rows'.map fun r => r.map dMv) ∧ rows'.length = p.mv.length ∧ fi'.length = p.mv.length ∧ (∀ r ∈ rows', OkRow (n + 1) p.rd p.wr p.mv.length r) ∧ (∀ q ∈ fi', OkFi (n + 1) p.wr q) := by
          intro G5 H5 v8 h5 s5 v q rv oq
          have h6 := h5.putAt (k := 0) rfl (Reps.set rv kn (rf4.mono s5))
          rw [← List.map_set] at h6
          exact ⟨G5, A, _, p.mv, p.fi.set kn q, _, rfl, h6, sG.trans s5, e2, rfl, by rw [List.length_set]; omega, oka, fun e he => (List.mem_or_eq_of_mem_set he).elim (okf e) fun z => by rw [z]; exact oq⟩
        have putM : ∀ {G5 H5 : Hp} {v8 : Option V} {rvs5 : List V} {row5 : List Mv} {A5 : OwnL} (h5 : OwnX (.at_ s c ns) G H m (.lst (refs A5)) ((f, fvs, p.fi.map dFin) :: A5) G5 H5) (s5 : Same G4 G5) (hx5 : A5[kn]? = some (r, rvs5, row5.map dMv)) (d5 : datas A5 = (p.mv.set kn row5).map fun r => r.map dMv) (l5 : row5.length = p.rd.length) (ok5 : ∀ q ∈ row5, OkMv (n + 1) p.wr p.mv.length q) {v : V} {q : Mv}, Rep G5 v (dMv q) → OkMv (n + 1) p.wr p.mv.length q →
            ∃ A' : OwnL, OwnX (.at_ s c ns) G H m (.lst (refs A')) ((f, fvs, p.fi.map dFin) :: A') G5 (upd H5 r (.lst (rvs5.set jn v))) ∧ A'[kn]? = some (r, rvs5.set jn v, (row5.set jn q).map dMv) ∧ datas A' = ((p.mv.set kn (row5.set jn q)).map fun r => r.map dMv) ∧ (row5.set jn q).length = p.rd.length ∧ ∀ e ∈ row5.set jn q, OkMv (n + 1) p.wr p.mv.length e := by
          intro G5 H5 v8 rvs5 row5 A5 h5 s5 hx5 d5 l5 ok5 v q rv oq
          have h6 := h5.putAt (k := kn + 1) (l := r) (vs := rvs5) (ds := row5.map dMv) (by rw [List.getElem?_cons_succ]; exact hx5) (Reps.set rv jn (h5.repAt (k := kn + 1) (by rw [List.getElem?_cons_succ]; exact hx5)))
          rw [← List.map_set, List.set_cons_succ] at h6
          have er : refs (A5.set kn (r, rvs5.set jn v, (row5.set jn q).map dMv)) = refs A5 := by
            show (A5.set kn _).map (fun x => V.ref x.1) = A5.map fun x => V.ref x.1
            rw [List.map_set]
            exact set_self (by rw [List.getElem?_map, hx5]; rfl)
          refine ⟨A5.set kn (r, rvs5.set jn v, (row5.set jn q).map dMv), by rw [er]; exact h6, List.getElem?_set_self (lt_get hx5), ?_, by rw [List.length_set]; exact l5, fun e he => (List.mem_or_eq_of_mem_set he).elim (ok5 e) fun z => by rw [z]; exact oq⟩
          show (A5.set kn _).map (fun x => x.2.2) = _
          rw [List.map_set, List.map_set]
          show (datas A5).set kn _ = _
          rw [d5, List.map_set, List.set_set]
          simp only [List.map_set]
        have outM : ∀ {G5 H5 : Hp} {v8 : Option V} {rvs5 : List V} {row5 : List Mv} {A5 : OwnL} (h5 : OwnX (.at_ s c ns) G H m (.lst (refs A5)) ((f, fvs, p.fi.map dFin) :: A5) G5 H5) (s5 : Same G4 G5) (d5 : datas A5 = (p.mv.set kn row5).map fun r => r.map dMv) (l5 : row5.length = p.rd.length) (ok5 : ∀ q ∈ row5, OkMv (n + 1) p.wr p.mv.length q),
            ∃ (G' : Hp) (A' : OwnL) (fvs' : List V) (rows' : List (List Mv)) (fi' : List (Option Str)) (v8' : Option V), [some (V.ref s), some (.ref a), some (.ref r), some (.ref m), some (.ref f), some (.int kn), some (.int jn), some (.int dr), v8] = [some (V.ref s), some (.ref a), some (.ref r), some (.ref m), some (.ref f), some (.int kn), some (.int jn), some (.int dr), v8'] ∧
            OwnX (.at_ s c ns) G H m (.lst (refs A')) ((f, fvs', fi'.map dFin) :: A') G' H5 ∧ Same G G' ∧ datas A' = (rows'.map fun r => r.map dMv) ∧ rows'.length = p.mv.length ∧ fi'.length = p.mv.length ∧ (∀ r ∈ rows', OkRow (n + 1) p.rd p.wr p.mv.length r) ∧ (∀ q ∈ fi', OkFi (n + 1) p.wr q) := by
          intro G5 H5 v8 rvs5 row5 A5 h5 s5 d5 l5 ok5
          exact ⟨G5, A5, fvs, p.mv.set kn row5, p.fi, _, rfl, h5, sG.trans s5, d5, by rw [List.length_set], by omega, fun e he => (List.mem_or_eq_of_mem_set he).elim (oka e) fun z => by rw [z]; exact ⟨l5, ok5⟩, okf⟩
        have d4 : datas A = (p.mv.set kn row).map fun r => r.map dMv := by rw [e2, set_self hrow]
        have ok4 : ∀ q ∈ row, OkMv (n + 1) p.wr p.mv.length q := (oka row (List.mem_of_getElem? hrow)).2
        have ixj : ixN rvs.length (jn : Int) = some jn := by
          rw [ixN_int (by omega) (by omega)]
          congr 1
        have ixk : ixN fvs.length (kn : Int) = some kn := by
          rw [ixN_int (by omega) (by omega)]
          congr 1
        have hma4 : ∀ {G5 H5 : Hp} {A5 : OwnL} (h5 : OwnX (.at_ s c ns) G H m (.lst (refs A5)) ((f, fvs, p.fi.map dFin) :: A5) G5 H5), Same G4 G5 → H5 a = some (.tup [.str p.rd, .str p.wr, .str p.first, .ref ma, .ref fa]) := fun h5 s5 => h5.hs.g (s5 _ _ (sG _ _ ha))
        have hfin : ∀ {z : Str} {l : Nat}, Over p.wr z → z.length ≤ l + 1 → l ≤ n → OkFi (n + 1) p.wr (some z) := fun z1 z2 z3 y e => by
          cases e
          exact ⟨z1, by omega⟩
        have hmov : ∀ {z : Str} {l t : Nat}, Over p.wr z → z.length ≤ l + 1 → l ≤ n → t < p.mv.length → OkMv (n + 1) p.wr p.mv.length (some (z, t)) := fun z1 z2 z3 z4 y t e => by
          cases e
          exact ⟨⟨z1, by omega⟩, z4⟩
        -- a final word or a move
        refine ⟨_, rfl, rfl, _, rfl, ifD (fun _ => ⟨_, rfl, _, rfl, f, _, _, _, rfl, rfl, SqL.of hf4, atI_nat hfv, _, rfl, ifD (fun _ => ?_) (fun _ => ?_)⟩) (fun _ => ?_)⟩
        · exact ⟨_, rfl, _, rfl, f, _, _, _, rfl, rfl, hf4, ixk, putF (v8 := none) h4 (Same.refl _) (v := .non) (q := none) .non fun y e => by cases e⟩
        all_goals
          refine ⟨_, rfl, _, _, rfl, rfl, _, rfl, ifD (fun _ => ?_) (fun _ => ?_)⟩
          · refine ⟨_, rfl, _, rfl, a, _, _, _, rfl, rfl, SqT.of (hma4 h4 (Same.refl _)), rfl, _, rfl, _, rfl, f, _, _, _, rfl, rfl, SqL.of hf4, atI_nat hfv, ?_⟩
            rcases rfv.fin_inv with ⟨rfl, rfl⟩ | ⟨y, rfl, rfl⟩
            · refine ⟨false, rfl, iteF ⟨G4, s, c, ns, _, _, rfl, h4.wd, hp.awr, Over.empty, by decide +kernel, fun H5 z a5 z1 z2 => ⟨_, rfl, _, rfl, f, _, _, _, rfl, rfl, (h4.call a5).at_ (x := (f, fvs, p.fi.map dFin)) List.mem_cons_self, ixk, ?_⟩⟩⟩
              exact putF (v8 := none) (h4.call a5) grow_same (.str z) (hfin (l := 0) z1 (by rw [show ("" : Str).length = 0 from by decide +kernel] at z2; exact z2) (Nat.zero_le _))
            · have oky := hp.fin _ (List.mem_of_getElem? hfq) y rfl
              refine ⟨_, ⟨small_sz (Nat.le_trans oky.2 (by omega)), rfl⟩, ifD (fun _ => ?_) (fun _ => ?_)⟩
              · refine ⟨G4, s, c, ns, _, _, rfl, h4.wd, hp.awr, oky.1, Nat.le_trans oky.2 (by omega), fun H5 z a5 z1 z2 => ⟨_, rfl, _, rfl, f, _, _, _, rfl, rfl, (h4.call a5).at_ (x := (f, fvs, p.fi.map dFin)) List.mem_cons_self, ixk, ?_⟩⟩
                exact putF (v8 := none) (h4.call a5) grow_same (.str z) (hfin z1 z2 oky.2)
              · refine ⟨G4, s, c, ns, _, _, rfl, h4.wd, hp.awr, Over.empty, by decide +kernel, fun H5 z a5 z1 z2 => ⟨_, rfl, _, rfl, f, _, _, _, rfl, rfl, (h4.call a5).at_ (x := (f, fvs, p.fi.map dFin)) List.mem_cons_self, ixk, ?_⟩⟩
                exact putF (v8 := none) (h4.call a5) grow_same (.str z) (hfin (l := 0) z1 (by rw [show ("" : Str).length = 0 from by decide +kernel] at z2; exact z2) (Nat.zero_le _))
          · refine ⟨_, rfl, _, rfl, r, _, _, _, rfl, rfl, SqL.of hr4, atI_nat hmv, _, rfl, ifD (fun _ => ?_) (fun en => ?_)⟩
            · -- a move where there was none
              refine ⟨_, rfl, _, rfl, a, _, _, _, rfl, rfl, SqT.of (hma4 h4 (Same.refl _)), rfl, G4, s, c, ns, p.wr, 2, rfl, h4.wd, hp.awr.one, hp.awr.most, by decide, fun H5 y a5 y1 y2 => ?_⟩
              have h5 := h4.call a5
              refine ⟨_, rfl, _, rfl, m, refs A, rfl, .inl (SqL.of h5.atX), _, s, c, ns, _, rfl, h5.wd, by rw [List.length_map]; omega, fun H6 t a6 t0 t1 => ?_⟩
              rw [List.length_map] at t1
              have h6 := h5.call a6
              obtain ⟨tn, rfl⟩ : ∃ q : Nat, t = (q : Int) := ⟨t.toNat, by omega⟩
              refine ⟨by show 2 ≤ sizeLine; decide, fun q hq => ?_⟩
              have h7 := h6.newG (u := .tup [.str y, .int tn]) hq
              have s7 : Same G4 (upd (grow (grow G4 H4 H5) H5 H6) q (.tup [.str y, .int tn])) := (grow_same.trans grow_same).trans (same_new (h6.hs.fG hq))
              obtain ⟨A8, h8, _, d8, l8, ok8⟩ := putM (v8 := none) h7 s7 hx d4 okrow.1 ok4 (Rep.mv_ upd_same) (hmov (l := n) y1 (by omega) (Nat.le_refl _) (by omega))
              exact ⟨_, rfl, _, rfl, r, _, _, _, rfl, rfl, h7.at_ (x := (r, rvs, row.map dMv)) (List.mem_cons_of_mem _ (List.mem_of_getElem? hx)), ixj, outM (rvs5 := rvs) h8 s7 d8 l8 ok8⟩
            · -- a move becomes another, or none
              rcases rmv.mv_inv with ⟨_, e⟩ | ⟨tp, y, t, rfl, rfl, htp⟩
              · exact absurd e (dNot en)
              · have okt := okm y t rfl
                obtain ⟨A5, h5, hx5, d5, l5, ok5⟩ := putM (v8 := none) h4 (Same.refl _) hx d4 okrow.1 ok4 (v := .non) (q := none) .non fun y t e => by cases e
                refine ⟨_, rfl, _, rfl, r, _, _, _, rfl, rfl, SqL.of hr4, atI_nat hmv, _, rfl, _, rfl, r, _, _, _, rfl, rfl, hr4, ixj, ?_⟩
                have htp5 : (upd H4 r (.lst (rvs.set jn .non))) tp = some (.tup [.str y, .int (t : Nat)]) := h5.hs.g htp
                have hr5 := h5.at_ (x := (r, rvs.set jn .non, (row.set jn none).map dMv)) (List.mem_cons_of_mem _ (List.mem_of_getElem? hx5))
                have ixj5 : ixN (rvs.set jn V.non).length (jn : Int) = some jn := by rw [List.length_set]; exact ixj
                refine ⟨_, rfl, rfl, _, rfl, ifD (fun e4 => ?_) (fun e4 => ?_)⟩
                · have ed : dr = 4 := by simpa using dOf e4
                  refine ⟨_, rfl, _, rfl, a, _, _, _, rfl, rfl, SqT.of (hma4 h5 (Same.refl _)), rfl, _, rfl, tp, _, _, _, rfl, rfl, SqT.of htp5, rfl, G4, s, c, ns, _, _, rfl, h5.wd, hp.awr, okt.1.1, Nat.le_trans okt.1.2 (by omega), fun H6 z a6 z1 z2 => ?_⟩
                  have h6 := h5.call a6
                  refine ⟨_, rfl, tp, _, _, _, rfl, rfl, SqT.of (h6.hs.g (grow_old htp)), rfl, by show 2 ≤ sizeLine; decide, fun q hq => ?_⟩
                  have h7 := h6.newG (u := .tup [.str z, .int t]) hq
                  have s7 : Same G4 (upd (grow G4 (upd H4 r (.lst (rvs.set jn .non))) H6) q (.tup [.str z, .int t])) := grow_same.trans (same_new (h6.hs.fG hq))
                  obtain ⟨A8, h8, _, d8, l8, ok8⟩ := putM (v8 := none) h7 s7 hx5 d5 l5 ok5 (Rep.mv_ upd_same) (hmov z1 z2 okt.1.2 okt.2)
                  refine ⟨_, rfl, _, rfl, r, _, _, _, rfl, rfl, h7.at_ (x := (r, rvs.set jn .non, (row.set jn none).map dMv)) (List.mem_cons_of_mem _ (List.mem_of_getElem? hx5)), ixj5, ?_⟩
                  exact ⟨_, rfl, rfl, _, rfl, ifF (dF (by rw [ed]; decide)) (outM (rvs5 := rvs) h8 s7 d8 l8 ok8)⟩
                · refine ⟨_, rfl, rfl, _, rfl, ifD (fun e5 => ?_) (fun e5 => ?_)⟩
                  · refine ⟨_, rfl, tp, _, _, _, rfl, rfl, SqT.of htp5, rfl, _, rfl, _, rfl, m, refs A5, rfl, .inl (SqL.of h5.atX), G4, s, c, ns, _, rfl, h5.wd, ?_, fun H6 t2 a6 t0 t1 => ?_⟩
                    · have := congrArg List.length d5
                      simp only [List.length_map, List.length_set] at this ⊢
                      omega
                    have lA5 : (refs A5).length = p.mv.length := by
                      have := congrArg List.length d5
                      simp only [List.length_map, List.length_set] at this ⊢
                      omega
                    rw [lA5] at t1
                    have h6 := h5.call a6
                    obtain ⟨tn, rfl⟩ : ∃ q : Nat, t2 = (q : Int) := ⟨t2.toNat, by omega⟩
                    refine ⟨by show 2 ≤ sizeLine; decide, fun q hq => ?_⟩
                    have h7 := h6.newG (u := .tup [.str y, .int tn]) hq
                    have s7 : Same G4 (upd (grow G4 (upd H4 r (.lst (rvs.set jn .non))) H6) q (.tup [.str y, .int tn])) := grow_same.trans (same_new (h6.hs.fG hq))
                    obtain ⟨A8, h8, _, d8, l8, ok8⟩ := putM (v8 := none) h7 s7 hx5 d5 l5 ok5 (Rep.mv_ upd_same) (hmov okt.1.1 (Nat.le_succ_of_le (Nat.le_refl _)) okt.1.2 (by omega))
                    exact ⟨_, rfl, _, rfl, r, _, _, _, rfl, rfl, h7.at_ (x := (r, rvs.set jn .non, (row.set jn none).map dMv)) (List.mem_cons_of_mem _ (List.mem_of_getElem? hx5)), ixj5, outM (rvs5 := rvs) h8 s7 d8 l8 ok8⟩
                  · exact outM (rvs5 := rvs) h5 (Same.refl _) d5 l5 ok5
def sp_drawn : Sp := fun vs H Q _ => ∃ (G : Hp) (s c : Addr) (ns : List Int) (rd wr : Str), vs = [.ref s, .str rd, .str wr] ∧ Wd (.at_ s c ns) G H ∧ Alph 4 rd ∧ Alph 4 wr ∧ RetPt (.at_ s c ns) G H 3 rd wr Q
theorem RetPt.from_ {S : Sr} {G H H1 : Hp} {n : Nat} {rd wr : Str} {Q : VK} (k : RetPt S G H n rd wr Q) (h : Wd S G H) (a : Aft S G H H1) : RetPt S G H1 n rd wr Q := fun H' v p a2 r e1 e2 ok => by
  refine k H' v p (a.trans a2) (r.mono fun b o z => ?_) e1 e2 ok
  cases g : G b with
  | some u => rw [grow_old g] at z; rw [grow_old g]; exact z
  | none =>
    cases q : H1 b with
    | some u => rw [grow_not g q] at z; cases z
    | none =>
      rw [grow_new g q] at z
      have hb : H b = none := (Own.start h |>.call a).hs.f0 q
      rw [grow_new g hb]
      exact z
abbrev s_law_drawn : Stmt := (top 61)
abbrev N_law_drawn : List Str := ["_law_store_here", "_law_read", "_law_write"]
theorem sc_law_drawn : FnScope ["_law_store_here", "_law_read", "_law_write"] ["_law_store_here", "_law_read", "_law_write"] (defScope s_law_drawn) := ⟨rfl, rfl, rfl, by decide +kernel, rfl, by decide +kernel, by decide +kernel⟩
theorem c_law_drawn (T : Top K mg) : Cal P w K mg base (6) "_law_drawn" (sp_drawn) := by
  refine cal_of (d_law_drawn T) (g_law_drawn T) (fun _ F => F.bindsN fun _ _ _ _ _ _ us hl => match us, hl with | [_, _, _], _ => rfl) sc_law_drawn (fun vs H Q E h => ?_) (fun cdv A outer s H vs Q E hroom h => ?_)
  · obtain ⟨G, s, c, ns, rd, wr, rfl, hW, hrd, hwr, k⟩ := h
    rfl
  obtain ⟨G, s, c, ns, rd, wr, rfl, hW, hrd, hwr, k⟩ := h
  refine ⟨_, (pss_cons (ps_if (pt_cmpR op_eq (pe_cl (c_law_take T) hroom (by decide) (by rfl) (pa_cons (pv 0) (pa_cons pe_int pa_nil))) pe_int (nomark _)) (pss_one (ps_ret (pe_cl (c_law_wide_reader T) hroom (by decide) (by rfl) (pa_cons (pv 0) (pa_cons (pv 1) (pa_cons (pv 2) (pa_cons (pe_op op_add pe_int (pe_cl (c_law_take T) hroom (by decide) (by rfl) (pa_cons (pv 0) (pa_cons pe_int pa_nil)))) pa_nil))))))) pss_nil)
      (pss_one (ps_ret (pe_cl (c_law_reader T) hroom (by decide) (by rfl) (pa_cons (pv 0) (pa_cons (pv 1) (pa_cons (pv 2) (pa_cons pe_int pa_nil)))))))), ?_⟩
  refine ⟨_, rfl, G, s, c, ns, _, rfl, hW, by decide, fun H1 d a1 _ _ => ⟨rfl, _, rfl, ifD (fun _ => ?_) (fun _ => ?_)⟩⟩
  · refine ⟨_, rfl, _, rfl, _, rfl, _, rfl, G, s, c, ns, _, rfl, a1.wd, by decide, fun H2 t a2 t0 t1 => ?_⟩
    obtain ⟨tn, rfl⟩ : ∃ q : Nat, t = (q : Int) := ⟨t.toNat, by omega⟩
    refine rI0_eq (v := .int ((9 + tn : Nat) : Int)) (by show V.int (9 + (tn : Int)) = _; congr 1) ?_
    exact ⟨G, s, c, ns, rd, wr, 9 + tn, rfl, a2.wd, hrd, hwr, by omega, by omega, k.from_ hW (a1.trans a2)⟩
  · exact ⟨_, rfl, _, rfl, _, rfl, G, s, c, ns, rd, wr, 8, rfl, a1.wd, hrd, hwr, by decide, by decide, k.from_ hW a1⟩
end

end Lag

namespace Lag
open PySem PySem.Spec PyProof.Rows L2
/-! ### the checks: alphabets, words, moves -/
section
variable {P : Program} {w : World} {K : PySem.W.Frag} {mg : Str → Option Value} {base : Heap}
def sp_consists_of : Sp := fun vs H Q _ => ∃ x y : Str, vs = [.str x, .str y] ∧ y.length ≤ 1000000 ∧ Q (.bl (decide (Over x y))) H
abbrev s_consists_of : Stmt := (top 13)
abbrev N_consists_of : List Str := ["letters", "text"]
theorem sc_consists_of : FnScope ["letters", "text"] ["letters", "text"] (defScope s_consists_of) := ⟨rfl, rfl, rfl, by decide +kernel, rfl, by decide +kernel, by decide +kernel⟩
theorem c_consists_of (T : Top K mg) : Cal P w K mg base (1) "consists_of" (sp_consists_of) := by
  refine cal_of (d_consists_of T) (g_consists_of T) (fun _ F => F.bindsN fun _ _ _ _ _ _ us hl => match us, hl with | [_, _], _ => rfl) sc_consists_of (fun vs H Q E h => ?_) (fun cdv A outer s H vs Q E hroom h => ?_)
  · obtain ⟨x, y, rfl, hy, k⟩ := h
    rfl
  obtain ⟨x, y, rfl, hy, k⟩ := h
  refine ⟨_, (pss_one (ps_ret (pe_cmpR op_eq (pe_m1 PySem.F.slot_str_strip PySem.F.type_str_strip mt_stripChars (pv 1) (pv 0)) pe_str (nomark _)))), ?_⟩
  refine ⟨_, rfl, ⟨_, rfl⟩, _, rfl, y, x, rfl, rfl, Nat.le_trans hy (by decide), rfl, ?_⟩
  have e : decide (V.str (Txt.stripChars y x) = V.str "") = decide (Over x y) := decide_eq_decide.mpr ⟨fun h => (strip_nil y x).mp (V.str.inj h), fun h => congrArg V.str ((strip_nil y x).mpr h)⟩
  show Q (.bl (decide (V.str (Txt.stripChars y x) = V.str ""))) H
  rw [e]
  exact k
def sp_is_letters : Sp := fun vs H Q _ => ∃ (G : Hp) (v : V) (d : D), vs = [v] ∧ Same G H ∧ Rep G v d ∧ Sz d ∧ Q (.bl (isLet d)) H
abbrev s_is_letters : Stmt := (top 14)
abbrev N_is_letters : List Str := ["value", "at"]
theorem sc_is_letters : FnScope ["value", "at"] ["value"] (defScope s_is_letters) := ⟨rfl, rfl, rfl, by decide +kernel, rfl, by decide +kernel, by decide +kernel⟩
theorem c_is_letters (T : Top K mg) : Cal P w K mg base (2) "is_letters" (sp_is_letters) := by
  refine cal_of (d_is_letters T) (g_is_letters T) (fun _ F => F.bindsN fun _ _ _ _ _ _ us hl => match us, hl with | [_], _ => rfl) sc_is_letters (fun vs H Q E h => ?_) (fun cdv A outer s H vs Q E hroom h => ?_)
  · obtain ⟨G, v, d, rfl, hG, hv, hz, k⟩ := h
    rfl
  obtain ⟨G, v, d, rfl, hG, hv, hz, k⟩ := h
  refine ⟨_, (pss_cons (ps_if (PW.pt (pw_or (pt_not (pt_val (pe_callB (call_isiK2 K rfl) (by rfl) (f_isinstance T) (by decide +kernel) (pa_cons (pv 0) (pa_cons (pe_bltn (v := .ty "str") (by rfl) (f_str T) (by decide +kernel) rfl) pa_nil))))) (pw_or (pt_cmpR op_lt (pe_callB (call_lenK K rfl) (by rfl) (f_len T) PySem.boot_len (pa_cons (pv 0) pa_nil)) pe_int (nomark _)) (pw_or1 (pt_cmpR op_gt (pe_callB (call_lenK K rfl) (by rfl) (f_len T) PySem.boot_len (pa_cons (pv 0) pa_nil)) (pe_gi (by rfl) (k_MOST_LETTERS T)) (nomark _)))))) (pss_one (ps_ret pe_bl)) pss_nil)
      (pss_cons (ps_if (pt_not (pt_val (pe_cl (c_consists_of T) hroom (by decide) (by rfl) (pa_cons (pe_gs (by rfl) (k_SMALL_LETTERS T)) (pa_cons (pv 0) pa_nil))))) (pss_one (ps_ret pe_bl)) pss_nil)
      (pss_cons (ps_for PassesOwn.never rfl (pi_range2 (by rfl) (f_range T) (pa_cons pe_int (pa_cons (pe_callB (call_lenK K rfl) (by rfl) (f_len T) PySem.boot_len (pa_cons (pv 0) pa_nil)) pa_nil))) (pg_name (i := 1) sc_is_letters.nd rfl (Or.inl rfl))
      (pss_one (ps_if (pt_cmpR op_ge_str (pe_ix ix_str (pv 0) (pe_op op_sub (pv 1) pe_int) (fun _ _ => rfl)) (pe_ix ix_str (pv 0) (pv 1) (fun _ _ => rfl)) (nomark _)) (pss_one (ps_ret pe_bl)) pss_nil)))
      (pss_one (ps_ret pe_bl))))), ?_⟩
  refine ⟨_, rfl, _, _, _, _, _, rfl, .ty _, hv.tyx hG, kit_of2 d (by decide), _, rfl, ?_⟩
  cases hi : isi d.ty "str" with
  | false =>
    have e : isLet d = false := by
      cases d with
      | str z => rw [(isi_str _).mpr ⟨z, rfl⟩] at hi; cases hi
      | _ => rfl
    rw [e] at k
    exact iteT k
  | true =>
    obtain ⟨z, rfl⟩ := (isi_str d).mp hi
    obtain rfl := hv.str_inv
    have hz : z.length ≤ 1000000 := hz
    have hz2 : z.length ≤ sizeLine := Nat.le_trans hz (by decide)
    have no : ¬ Alph 4 z → Q (.bl false) H := fun h => by
      have e : isLet (.str z) = false := dF h
      rw [e] at k
      exact k
    have yes : Alph 4 z → Q (.bl true) H := fun h => by
      have e : isLet (.str z) = true := dT h
      rw [e] at k
      exact k
    refine iteF ⟨_, rfl, _, z.length, rfl, ⟨hz2, rfl⟩, _, _, rfl, rfl, _, rfl, ifD (fun h1 => ?_) (fun h1 => ⟨_, rfl, _, z.length, rfl, ⟨hz2, rfl⟩, _, _, rfl, rfl, _, rfl, ifD (fun h2 => ?_) (fun h2 => ?_)⟩)⟩
    · have h1 := dOf h1
      exact no fun a => by have := a.one; omega
    · have h2 := dOf h2
      exact no fun a => by have := a.most; omega
    · have h1 := dNot h1
      have h2 := dNot h2
      refine ⟨_, rfl, abc, z, rfl, hz, _, rfl, ifD (fun h3 => ?_) (fun h3 => ?_)⟩
      · exact no fun a => by
          rw [decide_eq_true a.over] at h3
          cases h3
      · have h3 : Over abc z := by
          cases q : decide (Over abc z) with
          | true => exact dOf q
          | false => rw [q] at h3; cases h3
        refine ⟨_, rfl, _, z.length, rfl, ⟨hz2, rfl⟩, 1, z.length, rfl, ⟨by decide, by decide, by omega, by omega⟩, for_it (walk_range (lo := 1) (n := ((z.length : Int) - 1).toNat)) (fun i σ H' => H' = H ∧ (∃ v1, σ = [some (.str z), v1]) ∧ ∀ j a b, j < i → (cs z)[j]? = some a → (cs z)[j + 1]? = some b → a < b) ?_ (fun _ _ _ _ _ => trivial) ?_ ?_⟩
        · exact ⟨rfl, ⟨_, rfl⟩, fun j a b h => absurd h (Nat.not_lt_zero j)⟩
        · rintro i x σ H1 H2 hi ⟨rfl, ⟨v1, rfl⟩, hj⟩ ⟨rfl, rfl⟩
          have hi2 : i + 1 < (cs z).length := by rw [cs_len]; omega
          obtain ⟨a, ea⟩ := get_lt (Nat.lt_of_succ_lt hi2)
          obtain ⟨b, eb⟩ := get_lt hi2
          refine ⟨_, rfl, _, rfl, _, _, rfl, rfl, z, _, a, rfl, rfl, hz2, ?_, _, rfl, _, rfl, z, _, b, rfl, rfl, hz2, ?_, _, _, rfl, rfl, ?_⟩
          · rw [show (1 : Int) + (i : Nat) - 1 = (i : Int) by omega]
            exact atI_nat ea
          · rw [show (1 : Int) + (i : Nat) = ((i + 1 : Nat) : Int) by omega]
            exact atI_nat eb
          · rw [sgn_lt]
            refine ⟨_, rfl, ifD (fun h => ?_) (fun h => ?_)⟩
            · exact no fun al => by
                rw [dT (asc_at al.asc ea eb)] at h
                cases h
            · have hab : a < b := by
                cases q : decide (a < b) with
                | true => exact dOf q
                | false => rw [q] at h; cases h
              refine ⟨rfl, ⟨_, rfl⟩, fun j a' b' hj' e1 e2 => ?_⟩
              by_cases e : j = i
              · subst e
                rw [ea] at e1
                rw [eb] at e2
                cases e1
                cases e2
                exact hab
              · exact hj j a' b' (by omega) e1 e2
        · rintro σ H1 ⟨rfl, ⟨v1, rfl⟩, hj⟩
          refine yes (alph_iff.mpr ⟨⟨asc_of fun j a b e1 e2 => hj j a b ?_ e1 e2, h3⟩, by omega, by omega⟩)
          have := lt_get e2
          rw [cs_len] at this
          omega
/-- two values as data, then a flag -/
def sp_two (f : D → D → Bool) : Sp := fun vs H Q _ => ∃ (G : Hp) (v u : V) (d e : D), vs = [v, u] ∧ Same G H ∧ Rep G v d ∧ Rep G u e ∧ Sz d ∧ Sz e ∧ Q (.bl (f d e)) H
abbrev s_is_word : Stmt := (top 15)
abbrev N_is_word : List Str := ["letters", "value"]
theorem sc_is_word : FnScope ["letters", "value"] ["letters", "value"] (defScope s_is_word) := ⟨rfl, rfl, rfl, by decide +kernel, rfl, by decide +kernel, by decide +kernel⟩
theorem c_is_word (T : Top K mg) : Cal P w K mg base (3) "is_word" (sp_two isWord) := by
  refine cal_of (d_is_word T) (g_is_word T) (fun _ F => F.bindsN fun _ _ _ _ _ _ us hl => match us, hl with | [_, _], _ => rfl) sc_is_word (fun vs H Q E h => ?_) (fun cdv A outer s H vs Q E hroom h => ?_)
  · obtain ⟨G, v, u, d, e, rfl, hG, hv, hu, zd, ze, k⟩ := h
    rfl
  obtain ⟨G, v, u, d, e, rfl, hG, hv, hu, zd, ze, k⟩ := h
  refine ⟨_, (pss_one (ps_ret (pe_and (pe_cl (c_is_letters T) hroom (by decide) (by rfl) (pa_cons (pv 0) pa_nil)) (pe_and (pe_callB (call_isiK2 K rfl) (by rfl) (f_isinstance T) (by decide +kernel) (pa_cons (pv 1) (pa_cons (pe_bltn (v := .ty "str") (by rfl) (f_str T) (by decide +kernel) rfl) pa_nil))) (pe_one (pe_cl (c_consists_of T) hroom (by decide) (by rfl) (pa_cons (pv 0) (pa_cons (pv 1) pa_nil)))))))), ?_⟩
  refine ⟨_, rfl, G, v, d, rfl, hG, hv, zd, _, rfl, ifD (fun h1 => ?_) (fun h1 => ?_)⟩
  · obtain ⟨x, rfl, hx⟩ : ∃ x, d = .str x ∧ Alph 4 x := by
      cases d with
      | str x => exact ⟨x, rfl, dOf h1⟩
      | _ => cases h1
    obtain rfl := hv.str_inv
    refine ⟨_, rfl, _, _, _, _, _, rfl, .ty _, hu.tyx hG, kit_of2 e (by decide), _, rfl, ifD (fun h2 => ?_) (fun h2 => ?_)⟩
    · obtain ⟨y, rfl⟩ := (isi_str e).mp h2
      obtain rfl := hu.str_inv
      refine ⟨_, rfl, _, rfl, x, y, rfl, ze, ?_⟩
      have e : isWord (.str x) (.str y) = decide (Over x y) := by
        show (decide (Alph 4 x) && decide (Over x y)) = _
        rw [dT hx, Bool.true_and]
      rw [e] at k
      exact k
    · have e2 : isWord (.str x) e = false := by
        cases e with
        | str y => rw [(isi_str _).mpr ⟨y, rfl⟩] at h2; cases h2
        | _ => rfl
      rw [e2] at k
      exact k
  · have e2 : isWord d e = false := by
      cases d with
      | str x =>
        have h3 : decide (Alph 4 x) = false := h1
        cases e with
        | str y => show (decide (Alph 4 x) && _) = false; rw [h3, Bool.false_and]
        | _ => rfl
      | _ => rfl
    rw [e2] at k
    exact k
/-- the right alphabet is handed back -/
def sp_check_letters : Sp := fun vs H Q _ => ∃ x : Str, vs = [.str x] ∧ Alph 4 x ∧ Q (.str x) H
abbrev s_check_letters : Stmt := (top 17)
abbrev N_check_letters : List Str := ["letters"]
theorem sc_check_letters : FnScope ["letters"] ["letters"] (defScope s_check_letters) := ⟨rfl, rfl, rfl, by decide +kernel, rfl, by decide +kernel, by decide +kernel⟩
theorem c_check_letters (T : Top K mg) : Cal P w K mg base (3) "check_letters" (sp_check_letters) := by
  refine cal_of (d_check_letters T) (g_check_letters T) (fun _ F => F.bindsN fun _ _ _ _ _ _ us hl => match us, hl with | [_], _ => rfl) sc_check_letters (fun vs H Q E h => ?_) (fun cdv A outer s H vs Q E hroom h => ?_)
  · obtain ⟨x, rfl, hx, k⟩ := h
    rfl
  obtain ⟨x, rfl, hx, k⟩ := h
  refine ⟨_, (pss_cons (ps_if (pt_not (pt_val (pe_cl (c_is_letters T) hroom (by decide) (by rfl) (pa_cons (pv 0) pa_nil)))) pss_never pss_nil)
      (pss_one (ps_ret (pv 0)))), ?_⟩
  refine ⟨_, rfl, H, .str x, .str x, rfl, Same.refl H, .str x, Nat.le_trans hx.most (by decide), _, rfl, ?_⟩
  have e : isLet (.str x) = true := dT hx
  rw [e]
  exact iteF ⟨_, rfl, k⟩
abbrev s_is_written : Stmt := (top 24)
abbrev N_is_written : List Str := ["letters", "value"]
theorem sc_is_written : FnScope ["letters", "value"] ["letters", "value"] (defScope s_is_written) := ⟨rfl, rfl, rfl, by decide +kernel, rfl, by decide +kernel, by decide +kernel⟩
theorem c_is_written (T : Top K mg) : Cal P w K mg base (4) "is_written" (sp_two isWritten) := by
  refine cal_of (d_is_written T) (g_is_written T) (fun _ F => F.bindsN fun _ _ _ _ _ _ us hl => match us, hl with | [_, _], _ => rfl) sc_is_written (fun vs H Q E h => ?_) (fun cdv A outer s H vs Q E hroom h => ?_)
  · obtain ⟨G, v, u, d, e, rfl, hG, hv, hu, zd, ze, k⟩ := h
    rfl
  obtain ⟨G, v, u, d, e, rfl, hG, hv, hu, zd, ze, k⟩ := h
  refine ⟨_, (pss_one (ps_ret (pe_and (pe_cl (c_is_word T) hroom (by decide) (by rfl) (pa_cons (pv 0) (pa_cons (pv 1) pa_nil))) (pe_one (pe_cmpR op_le (pe_callB (call_lenK K rfl) (by rfl) (f_len T) PySem.boot_len (pa_cons (pv 1) pa_nil)) (pe_gi (by rfl) (k_MOST_WRITTEN T)) (nomark _)))))), ?_⟩
  refine ⟨_, rfl, _, rfl, G, v, u, d, e, rfl, hG, hv, hu, zd, ze, _, rfl, ifD (fun h1 => ?_) (fun h1 => ?_)⟩
  · obtain ⟨x, y, rfl, rfl, hx, hy⟩ : ∃ x y, d = .str x ∧ e = .str y ∧ Alph 4 x ∧ Over x y := by
      cases d with
      | str x =>
        cases e with
        | str y =>
          have h2 := Bool.and_eq_true_iff.mp (show (decide (Alph 4 x) && decide (Over x y)) = true from h1)
          exact ⟨x, y, rfl, rfl, dOf h2.1, dOf h2.2⟩
        | _ => cases h1
      | _ => cases h1
    obtain rfl := hu.str_inv
    have ze : y.length ≤ 1000000 := ze
    refine ⟨_, rfl, _, y.length, rfl, ⟨Nat.le_trans ze (by decide), rfl⟩, _, _, rfl, rfl, ?_⟩
    have e2 : isWritten (.str x) (.str y) = decide ((y.length : Int) ≤ 400) := by
      show (decide (Alph 4 x) && (decide (Over x y) && decide (y.length ≤ 400))) = _
      rw [dT hx, dT hy, Bool.true_and, Bool.true_and]
      exact decide_eq_decide.mpr (by omega)
    rw [e2] at k
    exact k
  · have e2 : isWritten d e = false := by
      cases d with
      | str x =>
        cases e with
        | str y =>
          have h2 : (decide (Alph 4 x) && decide (Over x y)) = false := h1
          show (decide (Alph 4 x) && (decide (Over x y) && decide (y.length ≤ 400))) = false
          rw [← Bool.and_assoc, h2, Bool.false_and]
        | _ => rfl
      | _ => rfl
    rw [e2] at k
    exact k
def sp_is_state : Sp := fun vs H Q _ => ∃ (G : Hp) (v : V) (d : D) (n : Nat), vs = [v, .int n] ∧ Same G H ∧ Rep G v d ∧ Q (.bl (isState d n)) H
abbrev s_is_state : Stmt := (top 25)
abbrev N_is_state : List Str := ["value", "size"]
theorem sc_is_state : FnScope ["value", "size"] ["value", "size"] (defScope s_is_state) := ⟨rfl, rfl, rfl, by decide +kernel, rfl, by decide +kernel, by decide +kernel⟩
theorem c_is_state (T : Top K mg) : Cal P w K mg base (1) "is_state" (sp_is_state) := by
  refine cal_of (d_is_state T) (g_is_state T) (fun _ F => F.bindsN fun _ _ _ _ _ _ us hl => match us, hl with | [_, _], _ => rfl) sc_is_state (fun vs H Q E h => ?_) (fun cdv A outer s H vs Q E hroom h => ?_)
  · obtain ⟨G, v, d, n, rfl, hG, hv, k⟩ := h
    rfl
  obtain ⟨G, v, d, n, rfl, hG, hv, k⟩ := h
  refine ⟨_, (pss_one (ps_ret (pe_and (pe_callB (call_isiK2 K rfl) (by rfl) (f_isinstance T) (by decide +kernel) (pa_cons (pv 0) (pa_cons (pe_bltn (v := .ty "int") (by rfl) (f_int T) (by decide +kernel) rfl) pa_nil))) (pe_and (pe_not (pe_callB (call_isiK2 K rfl) (by rfl) (f_isinstance T) (by decide +kernel) (pa_cons (pv 0) (pa_cons (pe_bltn (v := .ty "bool") (by rfl) (f_bool T) (by decide +kernel) rfl) pa_nil)))) (pe_one (pe_chain op_le op_lt pe_int (pv 0) (pv 1))))))), ?_⟩
  refine ⟨_, rfl, _, _, _, _, _, rfl, .ty _, hv.tyx hG, kit_of2 d (by decide), _, rfl, ifD (fun h1 => ?_) (fun h1 => ?_)⟩
  · refine ⟨_, rfl, _, _, _, _, _, rfl, .ty _, hv.tyx hG, kit_of2 d (by decide), _, rfl, _, rfl, ifD (fun h2 => ?_) (fun h2 => ?_)⟩
    · obtain ⟨i, rfl⟩ : ∃ i, d = .int i := by
        rcases (isi_int d).mp h1 with h | ⟨b, rfl⟩
        · exact h
        · rw [(isi_bool _).mpr ⟨b, rfl⟩] at h2
          cases h2
      obtain rfl := hv.int_inv
      refine ⟨_, rfl, _, _, rfl, rfl, _, rfl, ifD (fun h3 => ?_) (fun h3 => ?_)⟩
      · refine ⟨_, rfl, _, _, rfl, rfl, ?_⟩
        have e : isState (.int i) n = decide (i < n) := decide_eq_decide.mpr ⟨fun h => h.2, fun h => ⟨dOf h3, h⟩⟩
        rw [e] at k
        exact k
      · have e : isState (.int i) n = false := dF fun h => dNot h3 h.1
        rw [e] at k
        exact k
    · have e : isState d n = false := by
        cases d with
        | int i =>
          have : isi (D.int i).ty "bool" = true := by
            cases q : isi (D.int i).ty "bool" with
            | true => rfl
            | false => rw [q] at h2; cases h2
          obtain ⟨_, e⟩ := (isi_bool _).mp this
          cases e
        | _ => rfl
      rw [e] at k
      exact k
  · have e : isState d n = false := by
      cases d with
      | int i => rw [(isi_int _).mpr (.inl ⟨i, rfl⟩)] at h1; cases h1
      | _ => rfl
    rw [e] at k
    exact k
end

end Lag

namespace Lag
open PySem PySem.Spec PyProof.Rows L2
/-! ### a reader made of right arguments -/
section
variable {P : Program} {w : World} {K : PySem.W.Frag} {mg : Str → Option Value} {base : Heap}
abbrev dB (b : Bool) : D := .bl b
theorem OkMv.mono {n m : Nat} {x : Str} {size : Nat} {v : Mv} (h : OkMv n x size v) (k : n ≤ m) : OkMv m x size v := fun y t e => ⟨(h y t e).1.mono k, (h y t e).2⟩
def sp_is_move : Sp := fun vs H Q _ => ∃ (G : Hp) (wr : Str) (v : V) (m : Mv) (n : Nat), vs = [.str wr, v, .int n] ∧ Same G H ∧ Rep G v (dMv m) ∧ m ≠ none ∧ Alph 4 wr ∧ OkMv 400 wr n m ∧ Q (.bl true) H
abbrev s_is_move : Stmt := (top 26)
abbrev N_is_move : List Str := ["write", "value", "size"]
theorem sc_is_move : FnScope ["write", "value", "size"] ["write", "value", "size"] (defScope s_is_move) := ⟨rfl, rfl, rfl, by decide +kernel, rfl, by decide +kernel, by decide +kernel⟩
theorem c_is_move (T : Top K mg) : Cal P w K mg base (5) "is_move" (sp_is_move) := by
  refine cal_of (d_is_move T) (g_is_move T) (fun _ F => F.bindsN fun _ _ _ _ _ _ us hl => match us, hl with | [_, _, _], _ => rfl) sc_is_move (fun vs H Q E h => ?_) (fun cdv A outer s H vs Q E hroom h => ?_)
  · obtain ⟨G, wr, v, m, n, rfl, hG, hv, hm, hw, hok, k⟩ := h
    rfl
  obtain ⟨G, wr, v, m, n, rfl, hG, hv, hm, hw, hok, k⟩ := h
  refine ⟨_, (pss_cons (ps_if (PW.pt (pw_or (pt_not (pt_val (pe_callB (call_isiK2 K rfl) (by rfl) (f_isinstance T) (by decide +kernel) (pa_cons (pv 1) (pa_cons (pe_bltn (v := .ty "tuple") (by rfl) (f_tuple T) (by decide +kernel) rfl) pa_nil))))) (pw_or1 (pt_cmpR op_ne (pe_callB (call_len_seqK K rfl) (by rfl) (f_len T) PySem.boot_len (pa_cons (pv 1) pa_nil)) pe_int (nomark _))))) (pss_one (ps_ret pe_bl)) pss_nil)
      (pss_one (ps_ret (pe_and (pe_cl (c_is_written T) hroom (by decide) (by rfl) (pa_cons (pv 0) (pa_cons (pe_ix (ix_tupK K rfl) (pv 1) pe_int (fun _ _ => rfl)) pa_nil))) (pe_one (pe_cl (c_is_state T) hroom (by decide) (by rfl) (pa_cons (pe_ix (ix_tupK K rfl) (pv 1) pe_int (fun _ _ => rfl)) (pa_cons (pv 2) pa_nil)))))))), ?_⟩
  rcases hv.mv_inv with ⟨e, _⟩ | ⟨p, y, t, rfl, rfl, hp⟩
  · exact absurd e hm
  obtain ⟨⟨oy, ly⟩, lt⟩ := hok y t rfl
  have e1 : isi (dMv (some (y, t))).ty "tuple" = true := (isi_tuple _).mpr ⟨_, rfl⟩
  refine ⟨_, rfl, _, _, _, _, _, rfl, .ty _, hv.tyx hG, kit_of2 _ (by decide), _, rfl, ifF (notF e1) ?_⟩
  refine ⟨_, rfl, p, _, rfl, .inr (SqT.of (hG _ _ hp)), rfl, _, rfl, ifF (notF (dT rfl)) ?_⟩
  refine ⟨_, rfl, _, rfl, p, _, _, _, rfl, rfl, SqT.of (hG _ _ hp), rfl, G, _, _, .str wr, .str y, rfl, hG, .str wr, .str y, Nat.le_trans hw.most (by decide), Nat.le_trans ly (by decide), _, rfl, ?_⟩
  have e2 : isWritten (.str wr) (.str y) = true := by
    show (decide (Alph 4 wr) && (decide (Over wr y) && decide (y.length ≤ 400))) = true
    rw [dT hw, dT oy, dT ly] <;> rfl
  refine ifT e2 ⟨_, rfl, p, _, _, _, rfl, rfl, SqT.of (hG _ _ hp), rfl, _, rfl, G, _, .int t, n, rfl, hG, .int t, ?_⟩
  have e3 : isState (.int t) n = true := dT ⟨by omega, by omega⟩
  rw [e3]
  exact k
def sp_is_rowK (K : PySem.W.Frag) : Sp := fun vs H Q _ => ∃ (G : Hp) (rd wr : Str) (r : Addr) (rvs : List V) (row : List Mv) (n : Nat), vs = [.str rd, .str wr, .ref r, .int n] ∧ Same G H ∧ SqL K H r rvs ∧ Reps G rvs (row.map dMv) ∧ Alph 4 rd ∧ Alph 4 wr ∧ OkRow 400 rd wr n row ∧ ∀ H', Same H H' → Q (.bl true) H'
abbrev s_is_row : Stmt := (top 27)
abbrev N_is_row : List Str := ["read", "write", "row", "size", "item"]
theorem sc_is_row : FnScope ["read", "write", "row", "size", "item"] ["read", "write", "row", "size"] (defScope s_is_row) := ⟨rfl, rfl, rfl, by decide +kernel, rfl, by decide +kernel, by decide +kernel⟩
theorem c_is_row (T : Top K mg) : Cal P w K mg base (6) "is_row" (sp_is_rowK K) := by
  refine cal_of (d_is_row T) (g_is_row T) (fun _ F => F.bindsN fun _ _ _ _ _ _ us hl => match us, hl with | [_, _, _, _], _ => rfl) sc_is_row (fun vs H Q E h => ?_) (fun cdv A outer s H vs Q E hroom h => ?_)
  · obtain ⟨G, rd, wr, r, rvs, row, n, rfl, hG, hr, rr, hrd, hwr, hok, k⟩ := h
    rfl
  obtain ⟨G, rd, wr, r, rvs, row, n, rfl, hG, hr, rr, hrd, hwr, hok, k⟩ := h
  refine ⟨_, (pss_cons (ps_if (PW.pt (pw_or (pt_not (pt_val (pe_callB (call_isiTK K rfl) (by rfl) (f_isinstance T) (by decide +kernel) (pa_cons (pv 2) (pa_cons (pe_tup (pa_cons (pe_bltn (v := .ty "list") (by rfl) (f_list T) (by decide +kernel) rfl) (pa_cons (pe_bltn (v := .ty "tuple") (by rfl) (f_tuple T) (by decide +kernel) rfl) pa_nil))) pa_nil))))) (pw_or1 (pt_cmpR op_ne (pe_callB (call_len_seqK K rfl) (by rfl) (f_len T) PySem.boot_len (pa_cons (pv 2) pa_nil)) (pe_callB (call_lenK K rfl) (by rfl) (f_len T) PySem.boot_len (pa_cons (pv 0) pa_nil)) (nomark _))))) (pss_one (ps_ret pe_bl)) pss_nil)
      (pss_one (ps_ret (pe_callB (cr_allK K rfl rfl) (by rfl) (f_all T) (by decide +kernel) (pa_cons (pe_lc (own := [("item", 4)]) rfl sc_is_row.nd (pi_listK K rfl (pv 2)) (blkOk_by (own := [("item", 4)]) (N := N_is_row) (sc := defScope s_is_row) (by decide +kernel)) (fun _ _ _ _ _ => (pg_name (i := 4) sc_is_row.nd rfl (Or.inl rfl))) (fun _ _ _ _ _ => pts_nil) (fun _ _ _ _ _ => (pe_or (pe_cmp (pc_isN (pv 4))) (pe_one (pe_cl (c_is_move T) hroom (by decide) (by rfl) (pa_cons (pv 1) (pa_cons (pv 4) (pa_cons (pv 3) pa_nil)))))))) pa_nil))))), ?_⟩
  have lr : rvs.length = rd.length := by
    have := rr.length
    rw [List.length_map] at this
    exact this.trans hok.1
  have l4 := hrd.most
  refine ⟨_, rfl, by show 2 ≤ sizeLine; decide, fun p hp => ?_⟩
  have s1 : Same H (upd H p (.tup [.ty "list", .ty "tuple"])) := same_new hp
  refine ⟨_, p, _, _, _, true, rfl, upd_same, .cons (.ty _) (.cons (.ty _) .nil), tyx_sql (s1.seq hr), kit_l, _, rfl, iteF ?_⟩
  refine ⟨_, rfl, r, rvs, rfl, .inl (s1.seq hr), _, rfl, _, rd.length, rfl, ⟨small_sz (by omega), rfl⟩, rfl, _, rfl, ifF (notF (dT (by rw [lr]))) ?_⟩
  have w1 : Wd .no G (upd H p (.tup [.ty "list", .ty "tuple"])) := ⟨hG.trans s1, trivial⟩
  refine ⟨_, rfl, r, rfl, ⟨_, s1.seq hr⟩, fun D hD => lc_it (walk_list (xs := rvs)) (fun i H' => Own .no G (upd H p (.tup [.ty "list", .ty "tuple"])) [(D, (List.replicate i true).map V.bl, (List.replicate i true).map dB)] G H') ?_ ?_ ?_ ?_⟩
  · exact (Own.start w1).newL hD .nil
  · intro i H' _ ho
    exact Same.seq (fun b o z => ho.hs.but b o (s1 b o z) (fun q => q)) hr
  · rintro i x H1 H2 hi ho ⟨rfl, hx⟩
    obtain ⟨m, hm, rm⟩ := rr.mapAt hx
    have okm := hok.2 m (List.mem_of_getElem? hm)
    have fin : ∀ {H3}, Own .no G (upd H p (.tup [.ty "list", .ty "tuple"])) [(D, (List.replicate i true).map V.bl, (List.replicate i true).map dB)] G H3 → ∃ acc, H3 D = some (HO.lst acc) ∧ acc.length < sizeLine ∧ Own .no G (upd H p (.tup [.ty "list", .ty "tuple"])) [(D, (List.replicate (i + 1) true).map V.bl, (List.replicate (i + 1) true).map dB)] G (upd H3 D (.lst (acc ++ [.bl true]))) := fun ho => by
      have h := ho.app (A := []) (.bl true)
      refine ⟨_, ho.at_ List.mem_cons_self, ?_, ?_⟩
      · rw [List.length_map, List.length_replicate]
        exact small_lt (by omega)
      · rw [List.replicate_succ', List.map_append, List.map_append]
        exact h
    refine ⟨rfl, _, rfl, _, rfl, ?_⟩
    rcases rm.mv_inv with ⟨rfl, rfl⟩ | ⟨q, y, t, rfl, rfl, hq⟩
    · exact ifT (dT rfl) (fin ho)
    · exact ifF (dF (by intro e; cases e)) ⟨_, rfl, _, rfl, _, rfl, G, wr, _, some (y, t), n, rfl, ho.hs.wd.sub, rm, (by intro e; cases e), hwr, okm, fin ho⟩
  · intro H1 ho
    refine ⟨D, _, rfl, SqL.of (ho.at_ List.mem_cons_self), ?_⟩
    have e : (List.replicate rvs.length true).all id = true := by simp
    rw [e]
    exact k _ (s1.trans fun b o z => ho.hs.but b o z (fun q => q))
def sp_check_moves (K : PySem.W.Frag) : Sp := fun vs H Q _ => ∃ (G : Hp) (rd wr : Str) (m : Addr) (rows : List (List Mv)), vs = [.str rd, .str wr, .ref m] ∧ Same G H ∧ RowsIn K G H m rows ∧ Alph 4 rd ∧ Alph 4 wr ∧ 1 ≤ rows.length ∧ rows.length ≤ 64 ∧ (∀ r ∈ rows, OkRow 400 rd wr rows.length r) ∧
  ∀ (H' : Hp) (v : V), Aft .no G H H' → Rep (grow G H H') v (dMoves rows) → Q v H'
theorem aft_same {G H H' : Hp} (h : Same G H) (a : Aft .no G H H') : Same H H' := fun b o z => a.but b o z fun q => q
abbrev s_check_moves : Stmt := (top 28)
abbrev N_check_moves : List Str := ["read", "write", "moves", "at", "row"]
theorem sc_check_moves : FnScope ["read", "write", "moves", "at", "row"] ["read", "write", "moves"] (defScope s_check_moves) := ⟨rfl, rfl, rfl, by decide +kernel, rfl, by decide +kernel, by decide +kernel⟩
theorem c_check_moves (T : Top K mg) : Cal P w K mg base (7) "check_moves" (sp_check_moves K) := by
  refine cal_of (d_check_moves T) (g_check_moves T) (fun _ F => F.bindsN fun _ _ _ _ _ _ us hl => match us, hl with | [_, _, _], _ => rfl) sc_check_moves (fun vs H Q E h => ?_) (fun cdv A outer s H vs Q E hroom h => ?_)
  · obtain ⟨G, rd, wr, m, rows, rfl, hG, hin, hrd, hwr, l1, l64, hok, k⟩ := h
    rfl
  obtain ⟨G, rd, wr, m, rows, rfl, hG, hin, hrd, hwr, l1, l64, hok, k⟩ := h
  refine ⟨_, (pss_cons (ps_if (PW.pt (pw_or (pt_not (pt_val (pe_callB (call_isiTK K rfl) (by rfl) (f_isinstance T) (by decide +kernel) (pa_cons (pv 2) (pa_cons (pe_tup (pa_cons (pe_bltn (v := .ty "list") (by rfl) (f_list T) (by decide +kernel) rfl) (pa_cons (pe_bltn (v := .ty "tuple") (by rfl) (f_tuple T) (by decide +kernel) rfl) pa_nil))) pa_nil))))) (pw_or1 (pt_cmpR op_eq (pe_callB (call_len_seqK K rfl) (by rfl) (f_len T) PySem.boot_len (pa_cons (pv 2) pa_nil)) pe_int (nomark _))))) pss_never pss_nil)
      (pss_cons (ps_if (pt_cmpR op_gt (pe_callB (call_len_seqK K rfl) (by rfl) (f_len T) PySem.boot_len (pa_cons (pv 2) pa_nil)) (pe_gi (by rfl) (k_MOST_STATES T)) (nomark _)) pss_never pss_nil)
      (pss_cons (ps_for PassesOwn.never rfl (pi_enumK K rfl (by rfl) (f_enumerate T) (pa_cons (pv 2) pa_nil)) (pg_tupK K rfl rfl (pgs_cons (pg_name (i := 3) sc_check_moves.nd rfl (Or.inl rfl)) (pgs_cons (pg_name (i := 4) sc_check_moves.nd rfl (Or.inl rfl)) pgs_nil)))
      (pss_one (ps_if (pt_not (pt_val (pe_cl (c_is_row T) hroom (by decide) (by rfl) (pa_cons (pv 0) (pa_cons (pv 1) (pa_cons (pv 4) (pa_cons (pe_callB (call_len_seqK K rfl) (by rfl) (f_len T) PySem.boot_len (pa_cons (pv 2) pa_nil)) pa_nil))))))) pss_never pss_nil)))
      (pss_one (ps_ret (pe_lc (own := [("row", 4)]) rfl sc_check_moves.nd (pi_listK K rfl (pv 2)) (blkOk_by (own := [("row", 4)]) (N := N_check_moves) (sc := defScope s_check_moves) (by decide +kernel)) (fun _ _ _ _ _ => (pg_name (i := 4) sc_check_moves.nd rfl (Or.inl rfl))) (fun _ _ _ _ _ => pts_nil) (fun _ _ _ _ _ => (pe_callTy (call_list_ofK K rfl) (by rfl) (f_list T) (by decide +kernel) (pa_cons (pv 4) pa_nil))))))))), ?_⟩
  obtain ⟨mvs, hm, lm, hat⟩ := id hin
  refine ⟨_, rfl, by show 2 ≤ sizeLine; decide, fun p hp => ?_⟩
  have s1 : Same H (upd H p (.tup [.ty "list", .ty "tuple"])) := same_new hp
  refine ⟨_, p, _, _, _, true, rfl, upd_same, .cons (.ty _) (.cons (.ty _) .nil), tyx_sql (s1.seq hm), kit_l, _, rfl, iteF ?_⟩
  refine ⟨_, rfl, m, mvs, rfl, .inl (s1.seq hm), rfl, _, rfl, ifF (dF ?_) ?_⟩
  · intro e
    have := V.int.inj e
    omega
  refine ⟨_, rfl, m, mvs, rfl, .inl (s1.seq hm), _, _, rfl, rfl, _, rfl, ifF (dF ?_) ?_⟩
  · omega
  refine ⟨_, rfl, m, mvs, rfl, s1.seq hm, for_it (walk_enum (xs := mvs)) (fun i σ H' => Same H H' ∧ ∃ v3 v4 : Option V, σ = [some (.str rd), some (.str wr), some (.ref m), v3, v4]) ⟨s1, _, _, rfl⟩ (fun i σ H' _ h => h.1.seq hm) ?_ ?_⟩
  · rintro i x σ H1 H2 hi ⟨s2, v3, v4, rfl⟩ ⟨T, a, b, rfl, hT, rfl, ea, eb⟩
    cases ea
    obtain ⟨r, rvs, row, rfl, hrow, hr, rr⟩ := hat i b eb
    have s3 : Same H (upd H1 T (.tup [.int (i : Nat), .ref r])) := s2.trans (same_new hT)
    refine ⟨T, _, rfl, SqT.of upd_same, rfl, _, _, rfl, _, _, rfl, rfl, ?_⟩
    refine ⟨_, rfl, _, rfl, _, rfl, _, rfl, m, mvs, rfl, .inl (s3.seq hm), G, rd, wr, r, rvs, row, mvs.length, rfl, hG.trans s3, s3.seq hr, rr, hrd, hwr, ?_, fun H4 s4 => ⟨_, rfl, iteF ⟨s3.trans s4, _, _, rfl⟩⟩⟩
    rw [lm]
    exact hok row (List.mem_of_getElem? hrow)
  · rintro σ H1 ⟨s2, v3, v4, rfl⟩
    have w1 : Wd .no G H1 := ⟨hG.trans s2, trivial⟩
    refine ⟨_, rfl, m, rfl, ⟨_, s2.seq hm⟩, fun D hD => lc_it (walk_list (xs := mvs)) (fun i H' => ∃ (G' : Hp) (vs : List V), Own .no G H1 [(D, vs, (rows.take i).map dRow)] G' H' ∧ Same G G') ?_ ?_ ?_ ?_⟩
    · exact ⟨G, [], (Own.start w1).newL hD .nil, Same.refl G⟩
    · rintro i H' _ ⟨G', vs, ho, _⟩
      exact Same.seq (fun b o z => ho.hs.but b o (s2 b o z) (fun q => q)) hm
    · rintro i x H2 H3 hi ⟨G', vs, ho, sg⟩ ⟨rfl, hx⟩
      obtain ⟨r, rvs, row, rfl, hrow, hr, rr⟩ := hat i x hx
      have s4 : Same H H3 := fun b o z => ho.hs.but b o (s2 b o z) (fun q => q)
      refine ⟨rfl, _, rfl, r, rvs, rfl, .inl (s4.seq hr), fun l hl => ?_⟩
      have h5 := ho.newG (o := .lst rvs) hl
      have lv : vs.length = ((rows.take i).map dRow).length := (ho.rep _ List.mem_cons_self).length
      have h6 := h5.app (A := []) (v := .ref l) (d := dRow row) (.lst upd_same ((rr.mono sg).mono (same_new (ho.hs.fG hl))))
      refine ⟨vs, h5.at_ (x := (D, vs, (rows.take i).map dRow)) List.mem_cons_self, ?_, upd G' l (.lst rvs), vs ++ [V.ref l], ?_, sg.trans (same_new (ho.hs.fG hl))⟩
      · rw [lv, List.length_map]
        have := List.length_take_le' i rows
        exact small_lt (by omega)
      · rw [take_snoc hrow, List.map_append]
        exact h6
    · rintro H2 ⟨G', vs, ho, sg⟩
      rw [lm, List.take_length] at ho
      obtain ⟨h7, r7⟩ := ho.fin
      have a7 := (h7.aft w1)
      have ha : Aft .no G H H2 := ⟨fun b o z n => a7.but b o (s2 b o z) n, a7.wd⟩
      refine k H2 (.ref D) ha ?_
      refine (h7.out r7).mono fun b o z => ?_
      cases g : G b with
      | some u => rw [grow_old g] at z; rw [grow_old g]; exact z
      | none =>
        cases q : H1 b with
        | some u => rw [grow_not g q] at z; cases z
        | none =>
          rw [grow_new g q] at z
          rw [grow_new g (s2.free q)]
          exact z
def sp_check_finals (K : PySem.W.Frag) : Sp := fun vs H Q _ => ∃ (G : Hp) (wr : Str) (f : Addr) (fi : List (Option Str)), vs = [.str wr, .ref f, .int fi.length] ∧ Same G H ∧ FinsIn K G H f fi ∧ Alph 4 wr ∧ (∀ q ∈ fi, OkFi 400 wr q) ∧
  ∀ (H' : Hp) (v : V), Aft .no G H H' → Rep (grow G H H') v (dFins fi) → Q v H'
abbrev s_check_finals : Stmt := (top 29)
abbrev N_check_finals : List Str := ["write", "finals", "size", "at", "item"]
theorem sc_check_finals : FnScope ["write", "finals", "size", "at", "item"] ["write", "finals", "size"] (defScope s_check_finals) := ⟨rfl, rfl, rfl, by decide +kernel, rfl, by decide +kernel, by decide +kernel⟩
theorem c_check_finals (T : Top K mg) : Cal P w K mg base (5) "check_finals" (sp_check_finals K) := by
  refine cal_of (d_check_finals T) (g_check_finals T) (fun _ F => F.bindsN fun _ _ _ _ _ _ us hl => match us, hl with | [_, _, _], _ => rfl) sc_check_finals (fun vs H Q E h => ?_) (fun cdv A outer s H vs Q E hroom h => ?_)
  · obtain ⟨G, wr, f, fi, rfl, hG, hin, hwr, hok, k⟩ := h
    rfl
  obtain ⟨G, wr, f, fi, rfl, hG, hin, hwr, hok, k⟩ := h
  refine ⟨_, (pss_cons (ps_if (PW.pt (pw_or (pt_not (pt_val (pe_callB (call_isiTK K rfl) (by rfl) (f_isinstance T) (by decide +kernel) (pa_cons (pv 1) (pa_cons (pe_tup (pa_cons (pe_bltn (v := .ty "list") (by rfl) (f_list T) (by decide +kernel) rfl) (pa_cons (pe_bltn (v := .ty "tuple") (by rfl) (f_tuple T) (by decide +kernel) rfl) pa_nil))) pa_nil))))) (pw_or1 (pt_cmpR op_ne (pe_callB (call_len_seqK K rfl) (by rfl) (f_len T) PySem.boot_len (pa_cons (pv 1) pa_nil)) (pv 2) (nomark _))))) pss_never pss_nil)
      (pss_cons (ps_for PassesOwn.never rfl (pi_enumK K rfl (by rfl) (f_enumerate T) (pa_cons (pv 1) pa_nil)) (pg_tupK K rfl rfl (pgs_cons (pg_name (i := 3) sc_check_finals.nd rfl (Or.inl rfl)) (pgs_cons (pg_name (i := 4) sc_check_finals.nd rfl (Or.inl rfl)) pgs_nil)))
      (pss_one (ps_if (PW.pt (pw_and (pt_cmp (pc_notN (pv 4))) (pw_and1 (pt_not (pt_val (pe_cl (c_is_written T) hroom (by decide) (by rfl) (pa_cons (pv 0) (pa_cons (pv 4) pa_nil)))))))) pss_never pss_nil)))
      (pss_one (ps_ret (pe_callTy (call_list_ofK K rfl) (by rfl) (f_list T) (by decide +kernel) (pa_cons (pv 1) pa_nil)))))), ?_⟩
  obtain ⟨fvs, hf, rf⟩ := id hin
  have lf : fvs.length = fi.length := by
    have := rf.length
    rwa [List.length_map] at this
  refine ⟨_, rfl, by show 2 ≤ sizeLine; decide, fun p hp => ?_⟩
  have s1 : Same H (upd H p (.tup [.ty "list", .ty "tuple"])) := same_new hp
  refine ⟨_, p, _, _, _, true, rfl, upd_same, .cons (.ty _) (.cons (.ty _) .nil), tyx_sql (s1.seq hf), kit_l, _, rfl, iteF ?_⟩
  refine ⟨_, rfl, f, fvs, rfl, .inl (s1.seq hf), _, rfl, rfl, _, rfl, ifF (notF (dT (by rw [lf]))) ?_⟩
  refine ⟨_, rfl, f, fvs, rfl, s1.seq hf, for_it (walk_enum (xs := fvs)) (fun i σ H' => Same H H' ∧ ∃ v3 v4 : Option V, σ = [some (.str wr), some (.ref f), some (.int fi.length), v3, v4]) ⟨s1, _, _, rfl⟩ (fun i σ H' _ h => h.1.seq hf) ?_ ?_⟩
  · rintro i x σ H1 H2 hi ⟨s2, v3, v4, rfl⟩ ⟨T, a, b, rfl, hT, rfl, ea, eb⟩
    cases ea
    obtain ⟨q, hq, rq⟩ := rf.mapAt eb
    have s3 : Same H (upd H1 T (.tup [.int (i : Nat), b])) := s2.trans (same_new hT)
    refine ⟨T, _, rfl, SqT.of upd_same, rfl, _, _, rfl, _, _, rfl, rfl, _, rfl, _, rfl, ?_⟩
    rcases rq.fin_inv with ⟨rfl, rfl⟩ | ⟨y, rfl, rfl⟩
    · exact ifF (notF (dT rfl)) ⟨s3, _, _, rfl⟩
    · have oky := hok _ (List.mem_of_getElem? hq) y rfl
      have e2 : isWritten (.str wr) (.str y) = true := by
        show (decide (Alph 4 wr) && (decide (Over wr y) && decide (y.length ≤ 400))) = true
        rw [dT hwr, dT oky.1, dT oky.2] <;> rfl
      exact ifT (notT (dF (by intro e; cases e))) ⟨_, rfl, _, rfl, G, _, _, .str wr, .str y, rfl, hG.trans s3, .str wr, .str y, Nat.le_trans hwr.most (by decide), Nat.le_trans oky.2 (by decide), _, rfl, ifF (notF e2) ⟨s3, _, _, rfl⟩⟩
  · rintro σ H1 ⟨s2, v3, v4, rfl⟩
    refine ⟨_, rfl, f, fvs, rfl, .inl (s2.seq hf), fun l hl => ?_⟩
    have w0 : Wd .no G H := ⟨hG, trivial⟩
    have h1 := ((Own.start w0).same s2).newL hl rf
    obtain ⟨h2, r2⟩ := h1.fin
    exact k _ _ (h2.aft w0) (h2.out r2)
def sp_init (K : PySem.W.Frag) (C : Addr) : Sp := fun vs H Q _ => ∃ (G H0 : Hp) (x dx m f : Addr) (p : Pt), vs = [.ref x, .str p.rd, .str p.wr, .str p.first, .ref m, .ref f] ∧ H = upd (upd H0 dx (.own x)) x (.ins C dx []) ∧ H0 x = none ∧ H0 dx = none ∧ dx ≠ x ∧ Same G H0 ∧
  RowsIn K G H0 m p.mv ∧ FinsIn K G H0 f p.fi ∧ OkPt 400 p ∧ ∀ H' : Hp, Aft .no G H0 H' → RdAt (grow G H0 H') C (.ref x) p → Q .non H'
abbrev s_Reader_init : Stmt := (inClass (top 32) 0)
abbrev N_Reader_init : List Str := ["self", "read", "write", "first", "moves", "finals"]
theorem sc_Reader_init : FnScope ["self", "read", "write", "first", "moves", "finals"] ["self", "read", "write", "first", "moves", "finals"] (defScope s_Reader_init) := ⟨rfl, rfl, rfl, by decide +kernel, rfl, by decide +kernel, by decide +kernel⟩
theorem m_Reader (T : Top K mg) : Mak P w K mg base (8) "Reader" (He.ga K "Reader") (sp_init K (He.ga K "Reader")) := by
  refine mak_of (mk_Reader T) (d_Reader_init T) (g_Reader T) (fun _ F => F.bindsN fun _ _ _ _ _ _ us hl => match us, hl with | [_, _, _, _, _, _], _ => rfl) sc_Reader_init (fun vs H Q E h => ?_) (fun cdv A outer s H vs Q E hroom h => ?_)
  · obtain ⟨G, H0, x, dx, m, f, p, rfl, rfl, hx, hdx, hne, hG, hin, hfin, hp, k⟩ := h
    rfl
  obtain ⟨G, H0, x, dx, m, f, p, rfl, rfl, hx, hdx, hne, hG, hin, hfin, hp, k⟩ := h
  refine ⟨_, (pss_cons (ps_fld (pv 0) (pe_cl (c_check_letters T) hroom (by decide) (by rfl) (pa_cons (pv 1) pa_nil)) rfl)
      (pss_cons (ps_fld (pv 0) (pe_cl (c_check_letters T) hroom (by decide) (by rfl) (pa_cons (pv 2) pa_nil)) rfl)
      (pss_cons (ps_if (pt_not (pt_val (pe_cl (c_is_written T) hroom (by decide) (by rfl) (pa_cons (pv 2) (pa_cons (pv 3) pa_nil))))) pss_never pss_nil)
      (pss_cons (ps_fld (pv 0) (pv 3) rfl)
      (pss_cons (ps_fld (pv 0) (pe_cl (c_check_moves T) hroom (by decide) (by rfl) (pa_cons (pv 1) (pa_cons (pv 2) (pa_cons (pv 4) pa_nil)))) rfl)
      (pss_one (ps_fld (pv 0) (pe_cl (c_check_finals T) hroom (by decide) (by rfl) (pa_cons (pv 2) (pa_cons (pv 5) (pa_cons (pe_callB (call_len_seqK K rfl) (by rfl) (f_len T) PySem.boot_len (pa_cons (pv 4) pa_nil)) pa_nil)))) rfl))))))), ?_⟩
  have cl := cl_Reader T
  have w0 : Wd .no G H0 := ⟨hG, trivial⟩
  have o1 := (Own.start w0).newG (o := .own x) hdx
  have o2 := o1.newX (o := .ins (He.ga K "Reader") dx []) (D := x) (by rw [upd_ne hne.symm]; exact hx)
  have sg1 : Same G (upd G dx (.own x)) := same_new ((Own.start w0).hs.fG hdx)
  refine ⟨_, rfl, _, rfl, hp.ard, _, rfl, x, _, dx, _, rfl, o2.atX, cl, n_Reader_kept_read T, by show 0 < 1000; decide, ?_⟩
  have o3 := o2.setX (o' := .ins (He.ga K "Reader") dx (putF nR (.str p.rd) []))
  refine ⟨_, rfl, _, rfl, hp.awr, _, rfl, x, _, dx, _, rfl, o3.atX, cl, n_Reader_kept_write T, by show 1 < 1000; decide, ?_⟩
  have o4 := o3.setX (o' := .ins (He.ga K "Reader") dx (putF nW (.str p.wr) (putF nR (.str p.rd) [])))
  have e2 : isWritten (.str p.wr) (.str p.first) = true := by
    show (decide (Alph 4 p.wr) && (decide (Over p.wr p.first) && decide (p.first.length ≤ 400))) = true
    rw [dT hp.awr, dT hp.first.1, dT hp.first.2] <;> rfl
  refine ⟨_, rfl, _, rfl, _, _, _, .str p.wr, .str p.first, rfl, o4.hs.wd.sub, .str _, .str _, Nat.le_trans hp.awr.most (by decide), Nat.le_trans hp.first.2 (by decide), _, rfl, ifF (notF e2) ?_⟩
  have ln : ∀ (l : List (Str × V)) (g : Str) (v : V) {n : Nat}, l.length ≤ n → (putF g v l).length ≤ n + 1 := fun l g v n h => Nat.le_trans (length_putF g v l) (Nat.succ_le_succ h)
  refine ⟨_, rfl, _, rfl, x, _, dx, _, rfl, o4.atX, cl, n_Reader_kept_first T, Nat.lt_of_le_of_lt (ln _ _ _ (ln _ _ _ (Nat.le_refl 0))) (by decide), ?_⟩
  have o5 := o4.setX (o' := .ins (He.ga K "Reader") dx (putF nF (.str p.first) (putF nW (.str p.wr) (putF nR (.str p.rd) []))))
  have up : ∀ {o G' H'}, OwnX .no G H0 x o [] G' H' → Same H0 H' := fun h b o z => h.hs.but b o z fun q => q
  refine ⟨_, rfl, _, rfl, _, rfl, _, p.rd, p.wr, m, p.mv, rfl, o5.hs.wd.sub, hin.up (up o5) sg1, hp.ard, hp.awr, hp.one, hp.most, hp.rows, fun H6 mv a6 r6 => ?_⟩
  have o6 := o5.call a6
  refine ⟨_, rfl, x, _, dx, _, rfl, o6.atX, cl, n_Reader_kept_moves T, Nat.lt_of_le_of_lt (ln _ _ _ (ln _ _ _ (ln _ _ _ (Nat.le_refl 0)))) (by decide), ?_⟩
  have o7 := o6.setX (o' := .ins (He.ga K "Reader") dx (putF nM mv (putF nF (.str p.first) (putF nW (.str p.wr) (putF nR (.str p.rd) [])))))
  obtain ⟨mvs, hm, lm, _⟩ := hin
  refine ⟨_, rfl, _, rfl, _, rfl, m, mvs, rfl, .inl ((up o7).seq hm), _, p.wr, f, p.fi, ?_, o7.hs.wd.sub, hfin.up (up o7) (sg1.trans grow_same), hp.awr, hp.fin, fun H8 fv a8 r8 => ?_⟩
  · rw [lm, hp.fins] <;> rfl
  have o8 := o7.call a8
  refine ⟨_, rfl, x, _, dx, _, rfl, o8.atX, cl, n_Reader_kept_finals T, Nat.lt_of_le_of_lt (ln _ _ _ (ln _ _ _ (ln _ _ _ (ln _ _ _ (Nat.le_refl 0))))) (by decide), ?_⟩
  have o9 := o8.setX (o' := .ins (He.ga K "Reader") dx (putF nE fv (putF nM mv (putF nF (.str p.first) (putF nW (.str p.wr) (putF nR (.str p.rd) []))))))
  obtain ⟨o10, s10⟩ := o9.finX
  have q := k _ (o10.aft w0) (RdAt.mono o10.hs.out ⟨x, dx, mv, fv, rfl, by rw [upd_same, rdF_put], s10 _ _ (grow_old (grow_old upd_same)), (r6.mono grow_same).mono s10, r8.mono s10, hp⟩)
  exact q
end

end Lag

namespace Lag
open PySem PySem.Spec PyProof.Rows L2
/-! ### a reader's properties -/
section
variable {P : Program} {w : World} {K : PySem.W.Frag} {mg : Str → Option Value} {base : Heap}
def sp_getS (C : Addr) (f : Pt → Str) : Sp := fun vs H Q _ => ∃ (G : Hp) (v : V) (p : Pt), vs = [v] ∧ Same G H ∧ RdAt G C v p ∧ Q (.str (f p)) H
abbrev s_Reader_read : Stmt := (inClass (top 32) 1)
abbrev N_Reader_read : List Str := ["self"]
theorem sc_Reader_read : FnScope ["self"] ["self"] (defScope s_Reader_read) := ⟨rfl, rfl, rfl, by decide +kernel, rfl, by decide +kernel, by decide +kernel⟩
theorem c_Reader_read (T : Top K mg) : Prp P w K mg base (1) (He.ga K "Reader") "read" (sp_getS (He.ga K "Reader") Pt.rd) := by
  refine prp_of (cl_Reader T) (d_Reader_read T) (fun _ F => F.bindsN fun _ _ _ _ _ _ us hl => match us, hl with | [_], _ => rfl) sc_Reader_read (fun vs H Q E h => ?_) (fun cdv A outer s H vs Q E hroom h => ?_)
  · obtain ⟨G, v, p, rfl, hG, ⟨x, dx, m, f, rfl, hx, hd, rm, rf, ok⟩, k⟩ := h
    rfl
  obtain ⟨G, v, p, rfl, hG, ⟨x, dx, m, f, rfl, hx, hd, rm, rf, ok⟩, k⟩ := h
  refine ⟨_, (pss_one (ps_ret (pe_fldK K rfl (pv 0) rfl))), ?_⟩
  exact ⟨_, rfl, x, _, dx, _, _, rfl, hG _ _ hx, cl_Reader T, n_Reader_kept_read T, rdF_R p m f, k⟩
abbrev s_Reader_write : Stmt := (inClass (top 32) 2)
abbrev N_Reader_write : List Str := ["self"]
theorem sc_Reader_write : FnScope ["self"] ["self"] (defScope s_Reader_write) := ⟨rfl, rfl, rfl, by decide +kernel, rfl, by decide +kernel, by decide +kernel⟩
theorem c_Reader_write (T : Top K mg) : Prp P w K mg base (1) (He.ga K "Reader") "write" (sp_getS (He.ga K "Reader") Pt.wr) := by
  refine prp_of (cl_Reader T) (d_Reader_write T) (fun _ F => F.bindsN fun _ _ _ _ _ _ us hl => match us, hl with | [_], _ => rfl) sc_Reader_write (fun vs H Q E h => ?_) (fun cdv A outer s H vs Q E hroom h => ?_)
  · obtain ⟨G, v, p, rfl, hG, ⟨x, dx, m, f, rfl, hx, hd, rm, rf, ok⟩, k⟩ := h
    rfl
  obtain ⟨G, v, p, rfl, hG, ⟨x, dx, m, f, rfl, hx, hd, rm, rf, ok⟩, k⟩ := h
  refine ⟨_, (pss_one (ps_ret (pe_fldK K rfl (pv 0) rfl))), ?_⟩
  exact ⟨_, rfl, x, _, dx, _, _, rfl, hG _ _ hx, cl_Reader T, n_Reader_kept_write T, rdF_W p m f, k⟩
abbrev s_Reader_first : Stmt := (inClass (top 32) 3)
abbrev N_Reader_first : List Str := ["self"]
theorem sc_Reader_first : FnScope ["self"] ["self"] (defScope s_Reader_first) := ⟨rfl, rfl, rfl, by decide +kernel, rfl, by decide +kernel, by decide +kernel⟩
theorem c_Reader_first (T : Top K mg) : Prp P w K mg base (1) (He.ga K "Reader") "first" (sp_getS (He.ga K "Reader") Pt.first) := by
  refine prp_of (cl_Reader T) (d_Reader_first T) (fun _ F => F.bindsN fun _ _ _ _ _ _ us hl => match us, hl with | [_], _ => rfl) sc_Reader_first (fun vs H Q E h => ?_) (fun cdv A outer s H vs Q E hroom h => ?_)
  · obtain ⟨G, v, p, rfl, hG, ⟨x, dx, m, f, rfl, hx, hd, rm, rf, ok⟩, k⟩ := h
    rfl
  obtain ⟨G, v, p, rfl, hG, ⟨x, dx, m, f, rfl, hx, hd, rm, rf, ok⟩, k⟩ := h
  refine ⟨_, (pss_one (ps_ret (pe_fldK K rfl (pv 0) rfl))), ?_⟩
  exact ⟨_, rfl, x, _, dx, _, _, rfl, hG _ _ hx, cl_Reader T, n_Reader_kept_first T, rdF_F p m f, k⟩
def sp_getD (C : Addr) (f : Pt → D) : Sp := fun vs H Q _ => ∃ (G : Hp) (v : V) (p : Pt), vs = [v] ∧ Same G H ∧ RdAt G C v p ∧ ∀ (H' : Hp) (u : V), Aft .no G H H' → Rep (grow G H H') u (f p) → Q u H'
abbrev s_Reader_moves : Stmt := (inClass (top 32) 4)
abbrev N_Reader_moves : List Str := ["self", "row"]
theorem sc_Reader_moves : FnScope ["self", "row"] ["self"] (defScope s_Reader_moves) := ⟨rfl, rfl, rfl, by decide +kernel, rfl, by decide +kernel, by decide +kernel⟩
theorem c_Reader_moves (T : Top K mg) : Prp P w K mg base (1) (He.ga K "Reader") "moves" (sp_getD (He.ga K "Reader") (fun p => dMoves p.mv)) := by
  refine prp_of (cl_Reader T) (d_Reader_moves T) (fun _ F => F.bindsN fun _ _ _ _ _ _ us hl => match us, hl with | [_], _ => rfl) sc_Reader_moves (fun vs H Q E h => ?_) (fun cdv A outer s H vs Q E hroom h => ?_)
  · obtain ⟨G, v, p, rfl, hG, ⟨x, dx, m, f, rfl, hx, hd, rm, rf, ok⟩, k⟩ := h
    rfl
  obtain ⟨G, v, p, rfl, hG, ⟨x, dx, m, f, rfl, hx, hd, rm, rf, ok⟩, k⟩ := h
  refine ⟨_, (pss_one (ps_ret (pe_lc (own := [("row", 1)]) rfl sc_Reader_moves.nd (pi_listK K rfl (pe_fldK K rfl (pv 0) rfl)) (blkOk_by (own := [("row", 1)]) (N := N_Reader_moves) (sc := defScope s_Reader_moves) (by decide +kernel)) (fun _ _ _ _ _ => (pg_name (i := 1) sc_Reader_moves.nd rfl (Or.inl rfl))) (fun _ _ _ _ _ => pts_nil) (fun _ _ _ _ _ => (pe_callTy (call_list_ofK K rfl) (by rfl) (f_list T) (by decide +kernel) (pa_cons (pv 1) pa_nil)))))), ?_⟩
  obtain ⟨ma, rfl, hin⟩ := RowsIn.of (K := K) hG rm
  have w0 : Wd .no G H := ⟨hG, trivial⟩
  obtain ⟨mvs, hm, _⟩ := id hin
  refine ⟨_, rfl, x, _, dx, _, _, rfl, hG _ _ hx, cl_Reader T, n_Reader_kept_moves T, rdF_M p _ f, ma, rfl, ⟨_, hm⟩, fun D hD => lc_rows (Own.start w0) hin (Nat.le_trans ok.most (by decide)) hD (fun _ => rfl) (fun _ => rfl) fun G' ws H' ho sg sh => ?_⟩
  obtain ⟨h1, r1⟩ := ho.fin
  exact k H' _ (h1.aft w0) (h1.out r1)
abbrev s_Reader_finals : Stmt := (inClass (top 32) 5)
abbrev N_Reader_finals : List Str := ["self"]
theorem sc_Reader_finals : FnScope ["self"] ["self"] (defScope s_Reader_finals) := ⟨rfl, rfl, rfl, by decide +kernel, rfl, by decide +kernel, by decide +kernel⟩
theorem c_Reader_finals (T : Top K mg) : Prp P w K mg base (1) (He.ga K "Reader") "finals" (sp_getD (He.ga K "Reader") (fun p => dFins p.fi)) := by
  refine prp_of (cl_Reader T) (d_Reader_finals T) (fun _ F => F.bindsN fun _ _ _ _ _ _ us hl => match us, hl with | [_], _ => rfl) sc_Reader_finals (fun vs H Q E h => ?_) (fun cdv A outer s H vs Q E hroom h => ?_)
  · obtain ⟨G, v, p, rfl, hG, ⟨x, dx, m, f, rfl, hx, hd, rm, rf, ok⟩, k⟩ := h
    rfl
  obtain ⟨G, v, p, rfl, hG, ⟨x, dx, m, f, rfl, hx, hd, rm, rf, ok⟩, k⟩ := h
  refine ⟨_, (pss_one (ps_ret (pe_callTy (call_list_ofK K rfl) (by rfl) (f_list T) (by decide +kernel) (pa_cons (pe_fldK K rfl (pv 0) rfl) pa_nil)))), ?_⟩
  obtain ⟨fa, rfl, fvs, hf, rr⟩ := FinsIn.of (K := K) hG rf
  have w0 : Wd .no G H := ⟨hG, trivial⟩
  refine ⟨_, rfl, x, _, dx, _, _, rfl, hG _ _ hx, cl_Reader T, n_Reader_kept_finals T, rdF_E p m _, fa, fvs, rfl, .inl hf, fun l hl => ?_⟩
  obtain ⟨h1, r1⟩ := ((Own.start w0).newL hl rr).fin
  exact k _ _ (h1.aft w0) (h1.out r1)
end

end Lag

namespace Lag
open PySem PySem.Spec PyProof.Rows L2
/-! ### which states a word reaches, which lead to an end -/
section
variable {P : Program} {w : World} {K : PySem.W.Frag} {mg : Str → Option Value} {base : Heap}
def sp_flags (C : Addr) (f : Pt → Nat → Prop) : Sp := fun vs H Q _ => ∃ (G : Hp) (v : V) (p : Pt), vs = [v] ∧ Same G H ∧ RdAt G C v p ∧
  ∀ (H' : Hp) (a : Addr) (bs : List Bool), Aft .no G H H' → bs.length = p.mv.length → Tells bs (f p) → grow G H H' a = some (.lst (bs.map V.bl)) → Q (.ref a) H'
abbrev s_reached_states : Stmt := (top 39)
abbrev N_reached_states : List Str := ["reader", "moves", "state", "reached", "waiting", "move"]
theorem sc_reached_states : FnScope ["reader", "moves", "state", "reached", "waiting", "move"] ["reader"] (defScope s_reached_states) := ⟨rfl, rfl, rfl, by decide +kernel, rfl, by decide +kernel, by decide +kernel⟩
theorem c_reached_states (T : Top K mg) : Cal P w K mg base (3) "reached_states" (sp_flags (He.ga K "Reader") (fun p => Rea p.mv)) := by
  refine cal_of (d_reached_states T) (g_reached_states T) (fun _ F => F.bindsN fun _ _ _ _ _ _ us hl => match us, hl with | [_], _ => rfl) sc_reached_states (fun vs H Q E h => ?_) (fun cdv A outer s H vs Q E hroom h => ?_)
  · obtain ⟨G, v, p, rfl, hG, hR, k⟩ := h
    rfl
  obtain ⟨G, v, p, rfl, hG, hR, k⟩ := h
  refine ⟨_, (pss_cons (ps_set (i := 1) sc_reached_states.nd rfl (Or.inl rfl) (pe_pr (c_Reader_moves T) hroom (by decide) (pv 0)))
      (pss_cons (ps_setLc (i := 3) (own := [("state", 2)]) rfl sc_reached_states.nd rfl rfl (sw_true rfl rfl rfl (by decide +kernel)) (pi_range1 (by rfl) (f_range T) (pa_cons (pe_callB (call_len_seqK K rfl) (by rfl) (f_len T) PySem.boot_len (pa_cons (pv 1) pa_nil)) pa_nil)) (blkOk_by (own := [("state", 2)]) (N := N_reached_states) (sc := defScope s_reached_states) (by decide +kernel)) (fun _ _ _ _ _ => (pg_name (i := 2) sc_reached_states.nd rfl (Or.inl rfl))) (fun _ _ _ _ _ => pts_nil) (fun _ _ _ _ _ => (pe_cmpR op_eq (pv 2) pe_int (nomark _))))
      (pss_cons (ps_set (i := 4) sc_reached_states.nd rfl (Or.inl rfl) (pe_lst (pa_cons pe_int pa_nil)))
      (pss_cons (ps_while PassesOwn.never (pt_truthK K rfl (pv 4) (fun _ => rfl))
      (pss_cons (ps_set (i := 2) sc_reached_states.nd rfl (Or.inl rfl) (pe_bm0 PySem.F.plainAttrs_list PySem.F.slot_list_pop PySem.F.type_list_pop mt_pop (pv 4)))
      (pss_one (ps_for PassesOwn.never rfl (pi_listK K rfl (pe_ix (ix_listK K rfl) (pv 1) (pv 2) (fun _ _ => rfl))) (pg_name (i := 5) sc_reached_states.nd rfl (Or.inl rfl))
      (pss_one (ps_if (PW.pt (pw_and (pt_cmp (pc_notN (pv 5))) (pw_and1 (pt_not (pt_val (pe_ix (ix_listK K rfl) (pv 3) (pe_ix (ix_tupK K rfl) (pv 5) pe_int (fun _ _ => rfl)) (fun _ _ => rfl))))))) (pss_cons (ps_asg pe_bl (pg_sub (pv 3) (pe_ix (ix_tupK K rfl) (pv 5) pe_int (fun _ _ => rfl)) set_list))
      (pss_one (ps_expr (pe_bm PySem.F.plainAttrs_list PySem.F.slot_list_append PySem.F.type_list_append mt_append (pv 4) (pa_cons (pe_ix (ix_tupK K rfl) (pv 5) pe_int (fun _ _ => rfl)) pa_nil))))) pss_nil))))))
      (pss_one (ps_ret (pv 3))))))), ?_⟩
  obtain ⟨x, dx, m, f, rfl, hx, hd, rm, rf, ok⟩ := id hR
  have w0 : Wd .no G H := ⟨hG, trivial⟩
  have n1 := ok.one
  have n64 := ok.most
  refine ⟨_, rfl, x, dx, _, rfl, hG _ _ hx, G, _, p, rfl, hG, hR, fun H1 u a1 r1 => ?_⟩
  have o1 := (Own.start w0).call a1
  obtain ⟨ma, mvs, rfl, hma, rma⟩ := Rep.lst_inv (ds := p.mv.map dRow) r1
  clear r1
  have lm := len_of rma
  generalize grow G H H1 = G1 at o1 hma rma
  refine ⟨_, rfl, ma, mvs, rfl, .inl (SqL.of (o1.hs.g hma)), mvs.length, rfl, by omega, by omega, fun Fl hFl => lc_it (walk_range (lo := 0) (n := (mvs.length : Int).toNat)) (fun i H' => ∃ bs : List Bool, Own .no G H [(Fl, bs.map V.bl, bs.map D.bl)] G1 H' ∧ bs.length = i ∧ ∀ k b, bs[k]? = some b → (b = true ↔ k = 0)) ?_ (fun _ _ _ _ => trivial) ?_ ?_⟩
  · exact ⟨[], o1.newL (vs := []) (ds := []) hFl .nil, rfl, fun k b e => by simp at e⟩
  · rintro i x Ha Hb hi ⟨bs, oa, eb, hb⟩ ⟨rfl, rfl⟩
    refine ⟨rfl, _, rfl, rfl, bs.map V.bl, oa.at_ List.mem_cons_self, by rw [List.length_map]; exact small_lt (by omega), bs ++ [decide (V.int (0 + (i : Nat)) = V.int 0)], ?_, by rw [List.length_append, eb]; rfl, fun k b e => ?_⟩
    · have h := oa.app (A := []) (.bl (decide (V.int (0 + (i : Nat)) = V.int 0)))
      rw [List.map_append, List.map_append]
      exact h
    · by_cases lt : k < bs.length
      · rw [List.getElem?_append_left lt] at e
        exact hb k b e
      · have hk : k < (bs ++ [decide (V.int (0 + (i : Nat)) = V.int 0)]).length := lt_get e
        rw [List.length_append] at hk
        have ek : k = bs.length := by simp at hk; omega
        rw [ek, List.getElem?_concat_length] at e
        rw [← Option.some.inj e, decide_eq_true_iff, ek, eb]
        exact ⟨fun z => by have := V.int.inj z; omega, fun z => by rw [z]; rfl⟩
  · rintro Ha ⟨bs, oa, eb, hb⟩
    rw [show (mvs.length : Int).toNat = p.mv.length by omega] at eb
    refine ⟨by show 1 ≤ sizeLine; decide, fun W hW => ?_⟩
    have ob := oa.newL (vs := [0].map vN) (ds := [0].map dN) hW (Reps.nats [0])
    have d0 : Dfs (Goes p.mv) (· = 0) p.mv.length bs [0] fun _ => False := by
      have z0 : bs[0]? = some true := by
        obtain ⟨b, e⟩ := get_lt (xs := bs) (i := 0) (by omega)
        rw [e, (hb 0 b e).mpr rfl]
      refine ⟨eb, fun k e => by rw [e]; exact z0, fun k e => .base ((hb k true e).mp rfl), fun k mk => by rw [List.mem_singleton.mp mk]; exact z0, fun i j e nm => ?_⟩
      exact (nm (List.mem_singleton.mpr ((hb i true e).mp rfl))).elim
    refine ⟨fun m σ H' => ∃ (bs : List Bool) (ws : List Nat) (v2 v5 : Option V), m = 2 * bs.count false + ws.length ∧ σ = [some (.ref x), some (.ref ma), v2, some (.ref Fl), some (.ref W), v5] ∧
      Own .no G H [(W, ws.map vN, ws.map dN), (Fl, bs.map V.bl, bs.map D.bl)] G1 H' ∧ Dfs (Goes p.mv) (· = 0) p.mv.length bs ws (fun _ => False) ∧ 2 * bs.count false + ws.length ≤ 200, ⟨_, bs, [0], _, _, rfl, rfl, ob, d0, by have := bs.count_le_length (a := false); simp; omega⟩, ?_⟩
    clear ob oa hb d0 eb
    rintro m σ H3 ⟨bs, ws, v2, v5, rfl, rfl, o3, d3, m200⟩
    refine ⟨_, rfl, _, .inl ⟨_, SqL.of (o3.at_ List.mem_cons_self), rfl⟩, ifD (fun h => ?_) (fun h => ?_)⟩
    · obtain ⟨ws0, s, rfl⟩ : ∃ a b, ws = a ++ [b] := by
        rcases ws.eq_nil_or_concat with rfl | ⟨a, b, e⟩
        · cases h
        · exact ⟨a, b, by rw [e, List.concat_eq_append]⟩
      refine ⟨_, fun _ _ h => h, ?_⟩
      refine ⟨_, rfl, .inl ⟨rfl, _, SqL.of (o3.at_ List.mem_cons_self)⟩, W, _, vN s, rfl, rfl, o3.at_ List.mem_cons_self, by simp, ?_⟩
      have o4 := o3.putE (A := []) (u := ((ws0 ++ [s]).map vN).dropLast) (Reps.nats ws0) (by simp)
      have hs := d3.lst s (by simp)
      have sR := d3.sound s hs
      have ls := lt_get hs
      rw [d3.len] at ls
      obtain ⟨row, hrow⟩ := get_lt ls
      obtain ⟨rv, hrv, rrv⟩ := rma.mapOf hrow
      obtain ⟨ra, rvs, rfl, hra, rra⟩ := Rep.lst_inv (ds := row.map dMv) rrv
      have lr := len_of rra
      have d4 := d3.pop (ws' := ws0) (i := s) (fun k mk => List.mem_append_left _ mk) (fun k mk => (List.mem_append.mp mk).imp id List.mem_singleton.mp) (fun _ z => z)
      have hlen : (ws0 ++ [s]).length = ws0.length + 1 := by simp
      refine ⟨_, rfl, _, rfl, ma, _, _, _, rfl, rfl, SqL.of (o4.hs.g hma), atI_nat hrv, ra, rfl, ⟨_, SqL.of (o4.hs.g hra)⟩, for_it (walk_list (xs := rvs)) (fun j σ H' => ∃ (bs' : List Bool) (ws' : List Nat) (v5 : Option V), σ = [some (.ref x), some (.ref ma), some (vN s), some (.ref Fl), some (.ref W), v5] ∧
        Own .no G H [(W, ws'.map vN, ws'.map dN), (Fl, bs'.map V.bl, bs'.map D.bl)] G1 H' ∧ Dfs (Goes p.mv) (· = 0) p.mv.length bs' ws' (· = s) ∧ 2 * bs'.count false + ws'.length ≤ 2 * bs.count false + ws0.length ∧
        ∀ (j' : Nat) (y : Str) (t : Nat), j' < j → row[j']? = some (some (y, t)) → bs'[t]? = some true) ?_ ?_ ?_ ?_⟩
      · exact ⟨bs, ws0, _, rfl, o4, d4, Nat.le_refl _, fun j' y t h => absurd h (Nat.not_lt_zero j')⟩
      · rintro i σ H' _ ⟨_, _, _, _, oa, _⟩
        exact SqL.of (oa.hs.g hra)
      · rintro j xv σ Ha Hb hj ⟨bs', ws', v5, rfl, oa, da, le, hj'⟩ ⟨rfl, hxv⟩
        obtain ⟨mq, hmq, rmq⟩ := rra.mapAt hxv
        refine ⟨_, rfl, _, rfl, ?_⟩
        have nxt : ∀ {bs2 : List Bool}, (∀ k : Nat, bs'[k]? = some true → bs2[k]? = some true) → (∀ (y : Str) (t : Nat), mq = some (y, t) → bs2[t]? = some true) → ∀ (j' : Nat) (y : Str) (t : Nat), j' < j + 1 → row[j']? = some (some (y, t)) → bs2[t]? = some true := by
          intro bs2 up new j' y t lt e
          by_cases z : j' = j
          · rw [z, hmq] at e
            exact new y t (Option.some.inj e)
          · exact up t (hj' j' y t (by omega) e)
        rcases rmq.mv_inv with ⟨rfl, rfl⟩ | ⟨q, y, t, rfl, rfl, hq⟩
        · exact ifF (notF (dT rfl)) ⟨bs', ws', _, rfl, oa, da, le, nxt (fun _ z => z) fun y t e => by cases e⟩
        · have go : Goes p.mv s t := ⟨row, y, hrow, List.mem_of_getElem? hmq⟩
          have lt : t < p.mv.length := (goes_lt ok go).2
          obtain ⟨b, hb⟩ := get_lt (xs := bs') (i := t) (by rw [da.len]; exact lt)
          refine ifT (notT (dF (by intro e; cases e))) ⟨_, rfl, _, rfl, q, _, _, _, rfl, rfl, SqT.of (oa.hs.g hq), rfl, Fl, _, _, V.bl b, rfl, rfl, SqL.of (oa.at_ (List.mem_cons_of_mem _ List.mem_cons_self)), atI_nat (by rw [List.getElem?_map, hb]; rfl), _, rfl, ?_⟩
          cases b with
          | true => exact ifF rfl ⟨bs', ws', _, rfl, oa, da, le, nxt (fun _ z => z) fun y' t' e => by cases e; exact hb⟩
          | false =>
            have ob := oa.putE (A := [(W, ws'.map vN, ws'.map dN)]) (u := (bs'.map V.bl).set t (V.bl true)) (Reps.bls (bs'.set t true)) List.map_set.symm
            have oc := ob.putE (A := []) (u := ws'.map vN ++ [vN t]) (Reps.nats (ws' ++ [t])) (by simp)
            have ct := count_set_true hb
            refine ifT rfl ⟨_, rfl, _, rfl, q, _, _, _, rfl, rfl, SqT.of (oa.hs.g hq), rfl, Fl, _, _, t, rfl, rfl, oa.at_ (List.mem_cons_of_mem _ List.mem_cons_self), ixN_nat (by rw [List.length_map, da.len]; exact lt), ?_⟩
            refine ⟨_, rfl, .inl ⟨rfl, _, SqL.of (ob.at_ List.mem_cons_self)⟩, _, rfl, q, _, _, _, rfl, rfl, SqT.of (ob.hs.g hq), rfl, W, _, _, rfl, rfl, ob.at_ List.mem_cons_self, by rw [List.length_map]; exact small_lt (by omega), ?_⟩
            exact ⟨bs'.set t true, ws' ++ [t], _, rfl, oc, da.push hb (sR.step go), by rw [List.length_append]; show _ + (ws'.length + 1) ≤ _; omega, nxt (fun _ z => set_true z) fun y' t' e => by cases e; exact List.getElem?_set_self (lt_get hb)⟩
      · rintro σ Ha ⟨bs', ws', v5, rfl, oa, da, le, hj'⟩
        refine ⟨_, by rw [List.length_append]; show _ < _ + (ws0.length + 1); exact Nat.lt_succ_of_le le, bs', ws', _, _, rfl, rfl, oa, da.done fun j' go => ?_, by omega⟩
        obtain ⟨row', y, e1, e2⟩ := go
        rw [hrow] at e1
        cases e1
        obtain ⟨j1, e3⟩ := List.mem_iff_getElem?.mp e2
        exact hj' j1 y j' (by have := lt_get e3; omega) e3
    · have e : ws = [] := by
        cases ws with
        | nil => rfl
        | cons a l => cases h
      subst e
      have o5 := o3.less (A := [(W, [].map vN, [].map dN)])
      obtain ⟨o6, r6⟩ := o5.fin
      refine ⟨_, rfl, k _ Fl bs (o6.aft w0) d3.len d3.end_ (o6.hs.out _ _ upd_same)⟩
abbrev s_ending_states : Stmt := (top 20)
abbrev N_ending_states : List Str := ["reader", "moves", "ending", "changed", "state", "row", "final", "move"]
theorem sc_ending_states : FnScope ["reader", "moves", "ending", "changed", "state", "row", "final", "move"] ["reader"] (defScope s_ending_states) := ⟨rfl, rfl, rfl, by decide +kernel, rfl, by decide +kernel, by decide +kernel⟩
theorem c_ending_states (T : Top K mg) : Cal P w K mg base (3) "ending_states" (sp_flags (He.ga K "Reader") (fun p => Lea p.mv p.fi)) := by
  refine cal_of (d_ending_states T) (g_ending_states T) (fun _ F => F.bindsN fun _ _ _ _ _ _ us hl => match us, hl with | [_], _ => rfl) sc_ending_states (fun vs H Q E h => ?_) (fun cdv A outer s H vs Q E hroom h => ?_)
  · obtain ⟨G, v, p, rfl, hG, hR, k⟩ := h
    rfl
  obtain ⟨G, v, p, rfl, hG, hR, k⟩ := h
  refine ⟨_, (pss_cons (ps_set (i := 1) sc_ending_states.nd rfl (Or.inl rfl) (pe_pr (c_Reader_moves T) hroom (by decide) (pv 0)))
      (pss_cons (ps_set (i := 2) sc_ending_states.nd rfl (Or.inr rfl) (pe_lc (own := [("final", 6)]) rfl sc_ending_states.nd (pi_listK K rfl (pe_pr (c_Reader_finals T) hroom (by decide) (pv 0))) (blkOk_by (own := [("final", 6)]) (N := N_ending_states) (sc := defScope s_ending_states) (by decide +kernel)) (fun _ _ _ _ _ => (pg_name (i := 6) sc_ending_states.nd rfl (Or.inl rfl))) (fun _ _ _ _ _ => pts_nil) (fun _ _ _ _ _ => (pe_cmp (pc_notN (pv 6))))))
      (pss_cons (ps_set (i := 3) sc_ending_states.nd rfl (Or.inl rfl) pe_bl)
      (pss_cons (ps_while PassesOwn.never (pt_val (pv 3))
      (pss_cons (ps_set (i := 3) sc_ending_states.nd rfl (Or.inl rfl) pe_bl)
      (pss_one (ps_for PassesOwn.never rfl (pi_enumK K rfl (by rfl) (f_enumerate T) (pa_cons (pv 1) pa_nil)) (pg_tupK K rfl rfl (pgs_cons (pg_name (i := 4) sc_ending_states.nd rfl (Or.inl rfl)) (pgs_cons (pg_name (i := 5) sc_ending_states.nd rfl (Or.inl rfl)) pgs_nil)))
      (pss_one (ps_if (PW.pt (pw_and (pt_not (pt_val (pe_ix (ix_listK K rfl) (pv 2) (pv 4) (fun _ _ => rfl)))) (pw_and1 (pt_val (pe_callB (cr_anyK K rfl rfl) (by rfl) (f_any T) (by decide +kernel) (pa_cons (pe_lc (own := [("move", 7)]) rfl sc_ending_states.nd (pi_listK K rfl (pv 5)) (blkOk_by (own := [("move", 7)]) (N := N_ending_states) (sc := defScope s_ending_states) (by decide +kernel)) (fun _ _ _ _ _ => (pg_name (i := 7) sc_ending_states.nd rfl (Or.inl rfl))) (fun _ _ _ _ _ => pts_nil) (fun _ _ _ _ _ => (pe_and (pe_cmp (pc_notN (pv 7))) (pe_one (pe_ix (ix_listK K rfl) (pv 2) (pe_ix (ix_tupK K rfl) (pv 7) pe_int (fun _ _ => rfl)) (fun _ _ => rfl)))))) pa_nil)))))) (pss_cons (ps_asg pe_bl (pg_sub (pv 2) (pv 4) set_list))
      (pss_one (ps_set (i := 3) sc_ending_states.nd rfl (Or.inl rfl) pe_bl))) pss_nil))))))
      (pss_one (ps_ret (pv 2))))))), ?_⟩
  obtain ⟨x, dx, m, f, rfl, hx, hd, rm, rf, ok⟩ := id hR
  have w0 : Wd .no G H := ⟨hG, trivial⟩
  have n1 := ok.one
  have n64 := ok.most
  have nf := ok.fins
  refine ⟨_, rfl, x, dx, _, rfl, hG _ _ hx, G, _, p, rfl, hG, hR, fun H1 u a1 r1 => ?_⟩
  have o1 := (Own.start w0).call a1
  obtain ⟨ma, mvs, rfl, hma, rma⟩ := Rep.lst_inv (ds := p.mv.map dRow) r1
  clear r1
  have lm := len_of rma
  have s1 : Same G (grow G H H1) := grow_same
  generalize grow G H H1 = G1 at o1 hma rma s1
  refine ⟨_, rfl, x, dx, _, rfl, o1.hs.g (s1 _ _ hx), G1, _, p, rfl, o1.wd.sub, hR.mono s1, fun H2 u a2 r2 => ?_⟩
  have o2 := o1.call a2
  obtain ⟨fa, fvs, rfl, hfa, rfa⟩ := Rep.lst_inv (ds := p.fi.map dFin) r2
  clear r2
  have lf := len_of rfa
  have hma2 := grow_old (H := H1) (H' := H2) hma
  have rma2 := rma.mono (grow_same (G := G1) (H := H1) (H' := H2))
  generalize grow G1 H1 H2 = G2 at o2 hfa rfa hma2 rma2
  refine ⟨fa, rfl, ⟨_, SqL.of (o2.hs.g hfa)⟩, fun Fl hFl => lc_it (walk_list (xs := fvs)) (fun i H' => ∃ bs : List Bool, Own .no G H [(Fl, bs.map V.bl, bs.map D.bl)] G2 H' ∧ bs.length = i ∧ ∀ k b, bs[k]? = some b → (b = true ↔ Ends p.fi k)) ?_ ?_ ?_ ?_⟩
  · exact ⟨[], o2.newL (vs := []) (ds := []) hFl .nil, rfl, fun k b e => by simp at e⟩
  · rintro i H' _ ⟨bs, oa, _⟩
    exact SqL.of (oa.hs.g hfa)
  · rintro i xv Ha Hb hi ⟨bs, oa, eb, hb⟩ ⟨rfl, hxv⟩
    obtain ⟨q, hq, rq⟩ := rfa.mapAt hxv
    refine ⟨rfl, _, rfl, bs.map V.bl, oa.at_ List.mem_cons_self, by rw [List.length_map]; exact small_lt (by omega), bs ++ [!decide (xv = V.non)], ?_, by rw [List.length_append, eb]; rfl, fun k b e => ?_⟩
    · have h := oa.app (A := []) (.bl (!decide (xv = V.non)))
      rw [List.map_append, List.map_append]
      exact h
    · by_cases lt : k < bs.length
      · rw [List.getElem?_append_left lt] at e
        exact hb k b e
      · have hk : k < (bs ++ [!decide (xv = V.non)]).length := lt_get e
        rw [List.length_append] at hk
        have ek : k = bs.length := by simp at hk; omega
        rw [ek, List.getElem?_concat_length] at e
        rw [← Option.some.inj e, ek, eb]
        rcases rq.fin_inv with ⟨rfl, rfl⟩ | ⟨y, rfl, rfl⟩
        · rw [notF (dT rfl)]
          refine ⟨fun z => (by cases z), fun ⟨y, z⟩ => ?_⟩
          rw [hq] at z
          cases z
        · rw [notT (dF (by intro e; cases e))]
          exact ⟨fun _ => ⟨y, hq⟩, fun _ => rfl⟩
  · rintro Ha ⟨bs, oa, eb, hb⟩
    have eb2 : bs.length = p.mv.length := by omega
    have d0 : Fix (fun i j => Goes p.mv j i) (Ends p.fi) p.mv.length bs := by
      refine ⟨eb2, fun k e => ?_, fun k e => .base ((hb k true e).mp rfl)⟩
      obtain ⟨y, hy⟩ := id e
      have := lt_get hy
      obtain ⟨b, hb1⟩ := get_lt (xs := bs) (i := k) (by omega)
      rw [hb1, (hb k b hb1).mpr e]
    refine ⟨fun m σ H' => ∃ (bs : List Bool) (ch : Bool) (v4 v5 v6 v7 : Option V), m = 2 * bs.count false + (if ch = true then 1 else 0) ∧ σ = [some (.ref x), some (.ref ma), some (.ref Fl), some (.bl ch), v4, v5, v6, v7] ∧
      Own .no G H [(Fl, bs.map V.bl, bs.map D.bl)] G2 H' ∧ Fix (fun i j => Goes p.mv j i) (Ends p.fi) p.mv.length bs ∧ (ch = false → ∀ i j, bs[j]? = some true → Goes p.mv i j → bs[i]? = some true), ⟨_, bs, true, _, _, _, _, rfl, rfl, oa, d0, fun z => by cases z⟩, ?_⟩
    clear oa hb d0 eb eb2
    rintro m σ H3 ⟨bs, ch, v4, v5, v6, v7, rfl, rfl, o3, d3, cl3⟩
    refine ⟨_, rfl, _, rfl, ifD (fun h => ?_) (fun h => ?_)⟩
    · cases h
      refine ⟨_, fun _ _ h => h, ?_⟩
      refine ⟨_, rfl, ma, mvs, rfl, SqL.of (o3.hs.g hma2), for_it (walk_enum (xs := mvs)) (fun i σ H' => ∃ (bs' : List Bool) (ch' : Bool) (v4 v5 v6 v7 : Option V), σ = [some (.ref x), some (.ref ma), some (.ref Fl), some (.bl ch'), v4, v5, v6, v7] ∧
        Own .no G H [(Fl, bs'.map V.bl, bs'.map D.bl)] G2 H' ∧ Fix (fun i j => Goes p.mv j i) (Ends p.fi) p.mv.length bs' ∧ (ch' = true → bs'.count false < bs.count false) ∧ (ch' = false → bs' = bs ∧ ∀ i' j, i' < i → bs[j]? = some true → Goes p.mv i' j → bs[i']? = some true)) ?_ ?_ ?_ ?_⟩
      · exact ⟨bs, false, _, _, _, _, rfl, o3, d3, fun z => (by cases z), fun _ => ⟨rfl, fun i' j z => absurd z (Nat.not_lt_zero i')⟩⟩
      · rintro i σ H' _ ⟨_, _, _, _, _, _, _, oa, _⟩
        exact SqL.of (oa.hs.g hma2)
      · rintro i xv σ Ha Hb hi ⟨bs', ch', v4, v5, v6, v7, rfl, oa, da, c1, c2⟩ ⟨T, a, b, rfl, hT, rfl, ea, eb⟩
        cases ea
        obtain ⟨row, hrow, rrow⟩ := rma2.mapAt eb
        obtain ⟨ra, rvs, rfl, hra, rra⟩ := Rep.lst_inv (ds := row.map dMv) rrow
        have lr := len_of rra
        have ls := lt_get hrow
        have l4 : row.length ≤ 4 := by rw [(ok.rows row (List.mem_of_getElem? hrow)).1]; exact ok.ard.most
        obtain ⟨b, hb⟩ := get_lt (xs := bs') (i := i) (by rw [da.len]; exact ls)
        have ob := oa.drop (o := .tup [.int (i : Nat), .ref ra]) hT
        have stay : (∀ j, bs'[j]? = some true → Goes p.mv i j → bs'[i]? = some true) → (ch' = false → bs' = bs ∧ ∀ i' j, i' < i + 1 → bs[j]? = some true → Goes p.mv i' j → bs[i']? = some true) := by
          intro hi2 z
          obtain ⟨e1, e2⟩ := c2 z
          refine ⟨e1, fun i' j lt h1 h2 => ?_⟩
          by_cases q : i' = i
          · subst q
            rw [← e1] at h1 ⊢
            exact hi2 j h1 h2
          · exact e2 i' j (by omega) h1 h2
        refine ⟨T, _, rfl, SqT.of upd_same, rfl, _, _, rfl, _, _, rfl, rfl, _, rfl, _, rfl, Fl, _, _, V.bl b, rfl, rfl, SqL.of (ob.at_ List.mem_cons_self), atI_nat (by rw [List.getElem?_map, hb]; rfl), _, rfl, ?_⟩
        cases b with
        | true => exact ifF rfl ⟨bs', ch', _, _, _, _, rfl, ob, da, c1, stay fun _ _ _ => hb⟩
        | false =>
          refine ifT rfl ⟨_, rfl, ra, rfl, ⟨_, SqL.of (ob.hs.g hra)⟩, fun D2 hD2 => lc_it (walk_list (xs := rvs)) (fun j H' => ∃ cs : List Bool, Own .no G H [(D2, cs.map V.bl, cs.map D.bl), (Fl, bs'.map V.bl, bs'.map D.bl)] G2 H' ∧ cs.length = j ∧ ∀ (j' : Nat) (c : Bool), cs[j']? = some c → (c = true ↔ ∃ (y : Str) (t : Nat), row[j']? = some (some (y, t)) ∧ bs'[t]? = some true)) ?_ ?_ ?_ ?_⟩
          · exact ⟨[], ob.newL (vs := []) (ds := []) hD2 .nil, rfl, fun k b e => by simp at e⟩
          · rintro j H' _ ⟨cs, oc, _⟩
            exact SqL.of (oc.hs.g hra)
          · rintro j xv Hc Hd hj ⟨cs, oc, ec, hc⟩ ⟨rfl, hxv⟩
            obtain ⟨q, hq, rq⟩ := rra.mapAt hxv
            have fin : ∀ c : Bool, (c = true ↔ ∃ (y : Str) (t : Nat), row[j]? = some (some (y, t)) ∧ bs'[t]? = some true) → ∃ acc, Hd D2 = some (.lst acc) ∧ acc.length < sizeLine ∧ ∃ cs : List Bool, Own .no G H [(D2, cs.map V.bl, cs.map D.bl), (Fl, bs'.map V.bl, bs'.map D.bl)] G2 (upd Hd D2 (.lst (acc ++ [V.bl c]))) ∧ cs.length = j + 1 ∧ ∀ (j' : Nat) (c : Bool), cs[j']? = some c → (c = true ↔ ∃ (y : Str) (t : Nat), row[j']? = some (some (y, t)) ∧ bs'[t]? = some true) := by
              intro c hcj
              refine ⟨cs.map V.bl, oc.at_ List.mem_cons_self, by rw [List.length_map]; exact small_lt (by omega), cs ++ [c], ?_, by rw [List.length_append, ec]; rfl, fun k b e => ?_⟩
              · have h := oc.app (A := []) (.bl c)
                rw [List.map_append, List.map_append]
                exact h
              · by_cases lt : k < cs.length
                · rw [List.getElem?_append_left lt] at e
                  exact hc k b e
                · have hk : k < (cs ++ [c]).length := lt_get e
                  rw [List.length_append] at hk
                  have ek : k = cs.length := by simp at hk; omega
                  rw [ek, List.getElem?_concat_length] at e
                  rw [← Option.some.inj e, ek, ec]
                  exact hcj
            refine ⟨rfl, _, rfl, _, rfl, ?_⟩
            rcases rq.mv_inv with ⟨rfl, rfl⟩ | ⟨qa, y, t, rfl, rfl, hqa⟩
            · refine ifF (notF (dT rfl)) (fin false ⟨fun z => (by cases z), fun ⟨y, t, z, _⟩ => ?_⟩)
              rw [hq] at z
              cases z
            · have go : Goes p.mv i t := ⟨row, y, hrow, List.mem_of_getElem? hq⟩
              obtain ⟨c, hct⟩ := get_lt (xs := bs') (i := t) (by rw [da.len]; exact (goes_lt ok go).2)
              refine ifT (notT (dF (by intro e; cases e))) ⟨_, rfl, _, rfl, qa, _, _, _, rfl, rfl, SqT.of (oc.hs.g hqa), rfl, Fl, _, _, V.bl c, rfl, rfl, SqL.of (oc.at_ (List.mem_cons_of_mem _ List.mem_cons_self)), atI_nat (by rw [List.getElem?_map, hct]; rfl), fin c ⟨fun z => ⟨y, t, hq, by rw [hct, z]⟩, fun ⟨y', t', z1, z2⟩ => ?_⟩⟩
              rw [hq] at z1
              cases z1
              rw [hct] at z2
              exact Option.some.inj z2
          · rintro Hc ⟨cs, oc, ec, hc⟩
            have od := oc.less (A := [(D2, cs.map V.bl, cs.map D.bl)])
            have key : cs.any id = true ↔ ∃ t, Goes p.mv i t ∧ bs'[t]? = some true := by
              constructor
              · intro h
                obtain ⟨c, mc, hc1⟩ := List.any_eq_true.mp h
                obtain ⟨j1, e1⟩ := List.mem_iff_getElem?.mp mc
                obtain ⟨y, t, e2, e3⟩ := (hc j1 c e1).mp hc1
                exact ⟨t, ⟨row, y, hrow, List.mem_of_getElem? e2⟩, e3⟩
              · rintro ⟨t, ⟨row', y, e1, e2⟩, e3⟩
                rw [hrow] at e1
                cases e1
                obtain ⟨j1, e4⟩ := List.mem_iff_getElem?.mp e2
                obtain ⟨c, e5⟩ := get_lt (xs := cs) (i := j1) (by have := lt_get e4; omega)
                exact List.any_eq_true.mpr ⟨c, List.mem_of_getElem? e5, (hc j1 c e5).mpr ⟨y, t, e4, e3⟩⟩
            refine ⟨D2, cs, rfl, SqL.of (oc.at_ List.mem_cons_self), _, rfl, ifD (fun h => ?_) (fun h => ?_)⟩
            · obtain ⟨t, go, ht⟩ := key.mp h
              have oe := od.putE (A := []) (u := (bs'.map V.bl).set i (V.bl true)) (Reps.bls (bs'.set i true)) List.map_set.symm
              refine ⟨_, rfl, _, rfl, Fl, _, _, i, rfl, rfl, od.at_ List.mem_cons_self, ixN_nat (by rw [List.length_map, da.len]; exact ls), ?_⟩
              have ct := count_set_true hb
              refine ⟨bs'.set i true, true, _, _, _, _, rfl, oe, da.push ((da.sound t ht).step go), fun _ => ?_, fun z => (by cases z)⟩
              cases ch' with
              | true => have := c1 rfl; omega
              | false => have := (c2 rfl).1; subst this; omega
            · exact ⟨bs', ch', _, _, _, _, rfl, od, da, c1, stay fun j h1 h2 => by rw [key.mpr ⟨j, h2, h1⟩] at h; cases h⟩
      · rintro σ Ha ⟨bs', ch', v4, v5, v6, v7, rfl, oa, da, c1, c2⟩
        refine ⟨_, ?_, bs', ch', _, _, _, _, rfl, rfl, oa, da, fun z i j h1 h2 => ?_⟩
        · cases ch' with
          | true => have := c1 rfl; rw [if_pos rfl]; omega
          | false => have := (c2 rfl).1; subst this; rw [if_pos rfl, if_neg (by decide)]; omega
        · obtain ⟨e1, e2⟩ := c2 z
          rw [e1] at h1 ⊢
          exact e2 i j (by rw [lm]; exact (goes_lt ok h2).1) h1 h2
    · obtain ⟨o6, r6⟩ := o3.fin
      exact ⟨_, rfl, k _ Fl bs (o6.aft w0) d3.len (d3.tells fun i j h1 h2 => cl3 h j i h1 h2) (o6.hs.out _ _ upd_same)⟩
def sp_useful (C : Addr) : Sp := fun vs H Q _ => ∃ (G : Hp) (v : V) (p : Pt), vs = [v] ∧ Same G H ∧ RdAt G C v p ∧
  ∀ (H' : Hp) (a : Addr), Aft .no G H H' → H a = none → H' a = some (.lst ((useful p).map vN)) → Q (.ref a) H'
abbrev s_useful_reader_states : Stmt := (top 40)
abbrev N_useful_reader_states : List Str := ["reader", "reached", "ending", "state"]
theorem sc_useful_reader_states : FnScope ["reader", "reached", "ending", "state"] ["reader"] (defScope s_useful_reader_states) := ⟨rfl, rfl, rfl, by decide +kernel, rfl, by decide +kernel, by decide +kernel⟩
theorem c_useful_reader_states (T : Top K mg) : Cal P w K mg base (4) "useful_reader_states" (sp_useful (He.ga K "Reader")) := by
  refine cal_of (d_useful_reader_states T) (g_useful_reader_states T) (fun _ F => F.bindsN fun _ _ _ _ _ _ us hl => match us, hl with | [_], _ => rfl) sc_useful_reader_states (fun vs H Q E h => ?_) (fun cdv A outer s H vs Q E hroom h => ?_)
  · obtain ⟨G, v, p, rfl, hG, hR, k⟩ := h
    rfl
  obtain ⟨G, v, p, rfl, hG, hR, k⟩ := h
  refine ⟨_, (pss_cons (ps_set (i := 1) sc_useful_reader_states.nd rfl (Or.inr rfl) (pe_cl (c_reached_states T) hroom (by decide) (by rfl) (pa_cons (pv 0) pa_nil)))
      (pss_cons (ps_set (i := 2) sc_useful_reader_states.nd rfl (Or.inr rfl) (pe_cl (c_ending_states T) hroom (by decide) (by rfl) (pa_cons (pv 0) pa_nil)))
      (pss_one (ps_ret (pe_lc (own := [("state", 3)]) rfl sc_useful_reader_states.nd (pi_range1 (by rfl) (f_range T) (pa_cons (pe_callB (call_len_seqK K rfl) (by rfl) (f_len T) PySem.boot_len (pa_cons (pv 1) pa_nil)) pa_nil)) (blkOk_by (own := [("state", 3)]) (N := N_useful_reader_states) (sc := defScope s_useful_reader_states) (by decide +kernel)) (fun _ _ _ _ _ => (pg_name (i := 3) sc_useful_reader_states.nd rfl (Or.inl rfl))) (fun _ _ _ _ _ => (pts_one (PW.pt (pw_and (pt_val (pe_ix (ix_listK K rfl) (pv 1) (pv 3) (fun _ _ => rfl))) (pw_and1 (pt_val (pe_ix (ix_listK K rfl) (pv 2) (pv 3) (fun _ _ => rfl)))))))) (fun _ _ _ _ _ => (pv 3))))))), ?_⟩
  obtain ⟨x, dx, m, f, _, hx, hd, rm, rf, ok⟩ := id hR
  have w0 : Wd .no G H := ⟨hG, trivial⟩
  have n64 := ok.most
  refine ⟨_, rfl, G, _, p, rfl, hG, hR, fun H1 ra rs a1 lr tr hra => ?_⟩
  have o1 := (Own.start w0).call a1
  have s1 : Same G (grow G H H1) := grow_same
  generalize grow G H H1 = G1 at o1 hra s1
  refine ⟨_, rfl, G1, _, p, rfl, o1.wd.sub, hR.mono s1, fun H2 ea es a2 le te hea => ?_⟩
  have o2 := o1.call a2
  have hra2 := grow_old (H := H1) (H' := H2) hra
  generalize grow G1 H1 H2 = G2 at o2 hea hra2
  refine ⟨_, rfl, ra, rs.map V.bl, rfl, .inl (SqL.of (o2.hs.g hra2)), rs.length, by rw [List.length_map], by omega, by omega, fun R hR => lc_it (walk_range (lo := 0) (n := (rs.length : Int).toNat)) (fun i H' => Own .no G H [(R, (usefulTo p i).map vN, (usefulTo p i).map dN)] G2 H') ?_ (fun _ _ _ _ => trivial) ?_ ?_⟩
  · exact o2.newL (vs := []) (ds := []) hR .nil
  · rintro i xv Ha Hb hi oa ⟨rfl, rfl⟩
    have hi2 : i < p.mv.length := by omega
    obtain ⟨b, hb⟩ := get_lt (xs := rs) (i := i) (by omega)
    obtain ⟨c, hc⟩ := get_lt (xs := es) (i := i) (by omega)
    have sn := usefulTo_snoc p tr te hb hc
    refine ⟨rfl, _, rfl, _, rfl, ra, _, _, V.bl b, rfl, rfl, SqL.of (oa.hs.g hra2), atI_int (by omega) (by rw [List.getElem?_map, show ((0 : Int) + (i : Nat)).toNat = i by omega, hb]; rfl), _, rfl, ?_⟩
    have no : (b && c) = false → Own .no G H [(R, (usefulTo p (i + 1)).map vN, (usefulTo p (i + 1)).map dN)] G2 Hb := fun z => by
      rw [sn, if_neg (by rw [z]; decide), List.append_nil]
      exact oa
    cases b with
    | false => exact ifF rfl (ifF rfl (no rfl))
    | true =>
      refine ifT rfl ⟨_, rfl, _, rfl, ea, _, _, V.bl c, rfl, rfl, SqL.of (oa.hs.g hea), atI_int (by omega) (by rw [List.getElem?_map, show ((0 : Int) + (i : Nat)).toNat = i by omega, hc]; rfl), _, rfl, ?_⟩
      cases c with
      | false => exact ifF rfl (no rfl)
      | true =>
        refine ifT rfl ⟨_, rfl, (usefulTo p i).map vN, oa.at_ List.mem_cons_self, by rw [List.length_map]; exact small_lt (Nat.le_trans (usefulTo_len p i) (by omega)), ?_⟩
        rw [sn, if_pos (show (true && true) = true from rfl)]
        have h := oa.putE (A := []) (u := (usefulTo p i).map vN ++ [V.int (0 + (i : Nat))]) (Reps.nats (usefulTo p i ++ [i])) (by rw [List.map_append]; show _ = _ ++ [V.int (i : Nat)]; rw [Int.zero_add])
        exact h
  · rintro Ha oa
    rw [show (rs.length : Int).toNat = p.mv.length by omega] at oa
    have h1 := oa.at_ List.mem_cons_self
    exact k _ R (oa.aft w0) (oa.hs.m R (.lst ((usefulTo p p.mv.length).map vN)) (ofL_mem (x := (R, (usefulTo p p.mv.length).map vN, _)) oa.nd List.mem_cons_self)).2.2 h1
end

end Lag

namespace Lag
open PySem PySem.Spec PyProof.Rows L2
/-! ### deep equality, deep copies, the lists in a value, their wrecking -/
section
variable {P : Program} {w : World} {K : PySem.W.Frag} {mg : Str → Option Value} {base : Heap}
/-- a flag that tells whether both are the same data -/
def sp_same : Nat → Sp
  | 0 => fun _ _ _ _ => False
  | n + 1 => fun vs H Q _ => ∃ (G : Hp) (v u : V) (d e : D), vs = [v, u] ∧ Same G H ∧ Rep G v d ∧ Rep G u e ∧ Fit n e ∧ ∀ b : Bool, (b = true ↔ d = e) → Q (.bl b) H
abbrev s_law_same : Stmt := (top 53)
abbrev N_law_same : List Str := ["_law_actual", "_law_expected", "_law_k"]
theorem sc_law_same : FnScope ["_law_actual", "_law_expected", "_law_k"] ["_law_actual", "_law_expected"] (defScope s_law_same) := ⟨rfl, rfl, rfl, by decide +kernel, rfl, by decide +kernel, by decide +kernel⟩
theorem c_same_step (T : Top K mg) (n : Nat) (ih : Cal P w K mg base (n + 1) "_law_same" (sp_same n)) : Cal P w K mg base (n + 1 + 1) "_law_same" (sp_same (n + 1)) := by
  refine cal_of (d_law_same T) (g_law_same T) (fun _ F => F.bindsN fun _ _ _ _ _ _ us hl => match us, hl with | [_, _], _ => rfl) sc_law_same (fun vs H Q E h => ?_) (fun cdv A outer s H vs Q E hroom h => ?_)
  · obtain ⟨G, v, u, d, e, rfl, hG, hv, hu, hf, k⟩ := h
    rfl
  obtain ⟨G, v, u, d, e, rfl, hG, hv, hu, hf, k⟩ := h
  refine ⟨_, (pss_cons (ps_if (pt_cmp (pc_isN (pv 1))) (pss_one (ps_ret (pe_cmp (pc_isN (pv 0))))) pss_nil)
      (pss_cons (ps_if (pt_val (pe_callB (call_isiK2 K rfl) (by rfl) (f_isinstance T) (by decide +kernel) (pa_cons (pv 1) (pa_cons (pe_bltn (v := .ty "bool") (by rfl) (f_bool T) (by decide +kernel) rfl) pa_nil)))) (pss_one (ps_ret (pe_and (pe_callB (call_isiK2 K rfl) (by rfl) (f_isinstance T) (by decide +kernel) (pa_cons (pv 0) (pa_cons (pe_bltn (v := .ty "bool") (by rfl) (f_bool T) (by decide +kernel) rfl) pa_nil))) (pe_one (pe_cmpR op_eq (pv 0) (pv 1) (nomark _)))))) pss_nil)
      (pss_cons (ps_if (pt_val (pe_callB (call_isiK2 K rfl) (by rfl) (f_isinstance T) (by decide +kernel) (pa_cons (pv 1) (pa_cons (pe_bltn (v := .ty "int") (by rfl) (f_int T) (by decide +kernel) rfl) pa_nil)))) (pss_one (ps_ret (pe_and (pe_callB (call_isiK2 K rfl) (by rfl) (f_isinstance T) (by decide +kernel) (pa_cons (pv 0) (pa_cons (pe_bltn (v := .ty "int") (by rfl) (f_int T) (by decide +kernel) rfl) pa_nil))) (pe_and (pe_not (pe_callB (call_isiK2 K rfl) (by rfl) (f_isinstance T) (by decide +kernel) (pa_cons (pv 0) (pa_cons (pe_bltn (v := .ty "bool") (by rfl) (f_bool T) (by decide +kernel) rfl) pa_nil)))) (pe_one (pe_cmpR op_eq (pv 0) (pv 1) (nomark _))))))) pss_nil)
      (pss_cons (ps_if (pt_val (pe_callB (call_isiK2 K rfl) (by rfl) (f_isinstance T) (by decide +kernel) (pa_cons (pv 1) (pa_cons (pe_bltn (v := .ty "str") (by rfl) (f_str T) (by decide +kernel) rfl) pa_nil)))) (pss_one (ps_ret (pe_and (pe_callB (call_isiK2 K rfl) (by rfl) (f_isinstance T) (by decide +kernel) (pa_cons (pv 0) (pa_cons (pe_bltn (v := .ty "str") (by rfl) (f_str T) (by decide +kernel) rfl) pa_nil))) (pe_one (pe_cmpR op_eq (pv 0) (pv 1) (nomark _)))))) pss_nil)
      (pss_cons (ps_if (pt_val (pe_callB (call_isiK2 K rfl) (by rfl) (f_isinstance T) (by decide +kernel) (pa_cons (pv 1) (pa_cons (pe_bltn (v := .ty "tuple") (by rfl) (f_tuple T) (by decide +kernel) rfl) pa_nil)))) (pss_one (ps_if (pt_not (pt_val (pe_callB (call_isiK2 K rfl) (by rfl) (f_isinstance T) (by decide +kernel) (pa_cons (pv 0) (pa_cons (pe_bltn (v := .ty "tuple") (by rfl) (f_tuple T) (by decide +kernel) rfl) pa_nil))))) (pss_one (ps_ret pe_bl)) pss_nil)) (pss_one (ps_if (PW.pt (pw_or (pt_not (pt_val (pe_callB (call_isiK2 K rfl) (by rfl) (f_isinstance T) (by decide +kernel) (pa_cons (pv 0) (pa_cons (pe_bltn (v := .ty "list") (by rfl) (f_list T) (by decide +kernel) rfl) pa_nil))))) (pw_or1 (pt_not (pt_val (pe_callB (call_isiK2 K rfl) (by rfl) (f_isinstance T) (by decide +kernel) (pa_cons (pv 1) (pa_cons (pe_bltn (v := .ty "list") (by rfl) (f_list T) (by decide +kernel) rfl) pa_nil)))))))) (pss_one (ps_ret pe_bl)) pss_nil)))
      (pss_cons (ps_if (pt_cmpR op_ne (pe_callB (call_lenK K rfl) (by rfl) (f_len T) PySem.boot_len (pa_cons (pv 0) pa_nil)) (pe_callB (call_lenK K rfl) (by rfl) (f_len T) PySem.boot_len (pa_cons (pv 1) pa_nil)) (nomark _)) (pss_one (ps_ret pe_bl)) pss_nil)
      (pss_cons (ps_for PassesOwn.never rfl (pi_range1 (by rfl) (f_range T) (pa_cons (pe_callB (call_lenK K rfl) (by rfl) (f_len T) PySem.boot_len (pa_cons (pv 1) pa_nil)) pa_nil)) (pg_name (i := 2) sc_law_same.nd rfl (Or.inl rfl))
      (pss_one (ps_if (pt_not (pt_val (pe_cl ih hroom (Nat.le_refl _) (by rfl) (pa_cons (pe_ix (ix_seqK K rfl) (pv 0) (pv 2) (fun _ _ => rfl)) (pa_cons (pe_ix (ix_seqK K rfl) (pv 1) (pv 2) (fun _ _ => rfl)) pa_nil))))) (pss_one (ps_ret pe_bl)) pss_nil)))
      (pss_one (ps_ret pe_bl))))))))), ?_⟩
  have no : d ≠ e → Q (.bl false) H := fun h => k false ⟨fun z => (by cases z), fun z => (h z).elim⟩
  cases e with
  | non =>
    obtain rfl := hu.non_inv
    refine ⟨_, rfl, _, rfl, ifT (dT rfl) ⟨_, rfl, k _ ⟨fun z => ?_, fun z => ?_⟩⟩⟩
    · obtain rfl := dOf z
      exact hv.non_of
    · subst z
      exact dT hv.non_inv
  | bl b =>
    obtain rfl := hu.bl_inv
    refine ⟨_, rfl, _, rfl, ifF (dF (by intro e; cases e)) ⟨_, rfl, _, _, _, _, _, rfl, .ty _, hu.tyx hG, kit_of2 _ (by decide), ⟨_, rfl, ifT (isiB _) ⟨_, rfl, _, _, _, _, _, rfl, .ty _, hv.tyx hG, kit_of2 _ (by decide), ⟨_, rfl, ifD (fun h => ?_) (fun h => ?_)⟩⟩⟩⟩⟩
    · rw [isiB] at h
      cases d with
      | bl c =>
        obtain rfl := hv.bl_inv
        exact ⟨_, rfl, _, rfl, rfl, k _ ⟨fun z => by cases dOf z; rfl, fun z => by cases z; exact dT rfl⟩⟩
      | _ => cases h
    · rw [isiB] at h
      exact no fun z => by rw [z] at h; cases h
  | int b =>
    obtain rfl := hu.int_inv
    refine ⟨_, rfl, _, rfl, ifF (dF (by intro e; cases e)) ⟨_, rfl, _, _, _, _, _, rfl, .ty _, hu.tyx hG, kit_of2 _ (by decide), ⟨_, rfl, ifF (isiB _) ⟨_, rfl, _, _, _, _, _, rfl, .ty _, hu.tyx hG, kit_of2 _ (by decide), ⟨_, rfl, ifT (isiI _) ⟨_, rfl, _, _, _, _, _, rfl, .ty _, hv.tyx hG, kit_of2 _ (by decide), ⟨_, rfl, ifD (fun h => ?_) (fun h => ?_)⟩⟩⟩⟩⟩⟩⟩
    · rw [isiI] at h
      refine ⟨_, rfl, _, _, _, _, _, rfl, .ty _, hv.tyx hG, kit_of2 _ (by decide), ⟨_, rfl, ?_⟩⟩
      cases d with
      | int c =>
        obtain rfl := hv.int_inv
        exact ⟨_, rfl, ifT (notT (isiB (.int c))) ⟨_, rfl, _, rfl, rfl, k _ ⟨fun z => by cases dOf z; rfl, fun z => by cases z; exact dT rfl⟩⟩⟩
      | bl c => exact ⟨_, rfl, ifF (notF (isiB (.bl c))) (no fun z => by cases z)⟩
      | _ => cases h
    · rw [isiI] at h
      exact no fun z => by rw [z] at h; cases h
  | str b =>
    obtain rfl := hu.str_inv
    refine ⟨_, rfl, _, rfl, ifF (dF (by intro e; cases e)) ⟨_, rfl, _, _, _, _, _, rfl, .ty _, hu.tyx hG, kit_of2 _ (by decide), ⟨_, rfl, ifF (isiB _) ⟨_, rfl, _, _, _, _, _, rfl, .ty _, hu.tyx hG, kit_of2 _ (by decide), ⟨_, rfl, ifF (isiI _) ⟨_, rfl, _, _, _, _, _, rfl, .ty _, hu.tyx hG, kit_of2 _ (by decide), ⟨_, rfl, ifT (isiS _) ⟨_, rfl, _, _, _, _, _, rfl, .ty _, hv.tyx hG, kit_of2 _ (by decide), ⟨_, rfl, ifD (fun h => ?_) (fun h => ?_)⟩⟩⟩⟩⟩⟩⟩⟩⟩
    · rw [isiS] at h
      cases d with
      | str c =>
        obtain rfl := hv.str_inv
        exact ⟨_, rfl, _, rfl, rfl, k _ ⟨fun z => by cases dOf z; rfl, fun z => by cases z; exact dT rfl⟩⟩
      | _ => cases h
    · rw [isiS] at h
      exact no fun z => by rw [z] at h; cases h
  | tup es =>
    obtain ⟨ua, us, rfl, hua, ru⟩ := hu.tup_inv
    obtain ⟨m, rfl, hle, hfit⟩ := hf.tup_inv
    refine ⟨_, rfl, _, rfl, ifF (dF (by intro e; cases e)) ⟨_, rfl, _, _, _, _, _, rfl, .ty _, hu.tyx hG, kit_of2 _ (by decide), ⟨_, rfl, ifF (isiB _) ⟨_, rfl, _, _, _, _, _, rfl, .ty _, hu.tyx hG, kit_of2 _ (by decide), ⟨_, rfl, ifF (isiI _) ⟨_, rfl, _, _, _, _, _, rfl, .ty _, hu.tyx hG, kit_of2 _ (by decide), ⟨_, rfl, ifF (isiS _) ⟨_, rfl, _, _, _, _, _, rfl, .ty _, hu.tyx hG, kit_of2 _ (by decide), ⟨_, rfl, ifT (isiT _) ⟨_, rfl, _, _, _, _, _, rfl, .ty _, hv.tyx hG, kit_of2 _ (by decide), ⟨_, rfl, ifD (fun h => ?_) (fun h => ?_)⟩⟩⟩⟩⟩⟩⟩⟩⟩⟩⟩
    · rw [isiT] at h
      exact no fun z => by rw [z] at h; cases h
    · rw [isiT] at h
      obtain ⟨ds, rfl⟩ : ∃ ds, d = .tup ds := by
        cases d with
        | tup ds => exact ⟨ds, rfl⟩
        | _ => cases h
      obtain ⟨va, vs, rfl, hva, rv⟩ := hv.tup_inv
      refine ⟨_, rfl, .ref va, _, rfl, seq_len (.inr (SqT.of (hG _ _ hva))), _, rfl, .ref ua, _, rfl, seq_len (.inr (SqT.of (hG _ _ hua))), rfl, _, rfl, ifD (fun hn => ?_) (fun hn => ?_)⟩
      · refine k false ⟨fun z => (by cases z), fun z => ?_⟩
        have z := (show D.tup ds = D.tup es ↔ ds = es from ⟨D.tup.inj, congrArg D.tup⟩).mp z
        subst z
        rw [rv.length, ru.length, dT rfl] at hn
        cases hn
      · have ln : vs.length = us.length := by
          cases q : decide (V.int (vs.length : Nat) = V.int (us.length : Nat)) with
          | true =>
            have := V.int.inj (dOf q)
            omega
          | false => rw [q] at hn; cases hn
        refine ⟨_, rfl, .ref ua, _, rfl, seq_len (.inr (SqT.of (hG _ _ hua))), us.length, rfl, by have := ru.length; omega, by have := ru.length; omega, for_it (walk_range (lo := 0) (n := (us.length : Int).toNat)) (fun i σ H' => H' = H ∧ (∃ v2, σ = [some (.ref va), some (.ref ua), v2]) ∧ ∀ j : Nat, j < i → ds[j]? = es[j]?) ?_ (fun _ _ _ _ _ => trivial) ?_ ?_⟩
        · exact ⟨rfl, ⟨_, rfl⟩, fun j h => absurd h (Nat.not_lt_zero j)⟩
        · rintro i x σ H1 H2 hi ⟨rfl, ⟨v2, rfl⟩, hj⟩ ⟨rfl, rfl⟩
          obtain ⟨u1, hu1⟩ := get_lt (xs := us) (i := i) (by omega)
          obtain ⟨v1, hv1⟩ := get_lt (xs := vs) (i := i) (by omega)
          obtain ⟨e1, he1, re1⟩ := ru.at_ hu1
          obtain ⟨d1, hd1, rd1⟩ := rv.at_ hv1
          have hv2 : atI vs ((0 : Int) + (i : Nat)) = some v1 := atI_int (by omega) (by rw [show ((0 : Int) + (i : Nat)).toNat = i by omega]; exact hv1)
          have hu2 : atI us ((0 : Int) + (i : Nat)) = some u1 := atI_int (by omega) (by rw [show ((0 : Int) + (i : Nat)).toNat = i by omega]; exact hu1)
          refine ⟨_, rfl, _, rfl, .inr (.inl ⟨_, _, _, _, rfl, rfl, SqT.of (hG _ _ hva), hv2, ⟨_, rfl, _, rfl, .inr (.inl ⟨_, _, _, _, rfl, rfl, SqT.of (hG _ _ hua), hu2, ⟨G, v1, u1, d1, e1, rfl, hG, rd1, re1, hfit e1 (List.mem_of_getElem? he1), fun b hb => ⟨_, rfl, ifD (fun q => ?_) (fun q => ?_)⟩⟩⟩)⟩⟩)⟩
          · refine k false ⟨fun z => (by cases z), fun z => ?_⟩
            have z := (show D.tup ds = D.tup es ↔ ds = es from ⟨D.tup.inj, congrArg D.tup⟩).mp z
            subst z
            rw [he1] at hd1
            rw [hb.mpr (Option.some.inj hd1).symm] at q
            cases q
          · refine ⟨rfl, ⟨_, rfl⟩, fun j h => ?_⟩
            by_cases ej : j = i
            · have hb1 : b = true := by
                cases b with
                | true => rfl
                | false => cases q
              rw [ej, hd1, he1, hb.mp hb1]
            · exact hj j (by omega)
        · rintro σ H1 ⟨rfl, ⟨v2, rfl⟩, hj⟩
          refine k true ⟨fun _ => (show D.tup ds = D.tup es ↔ ds = es from ⟨D.tup.inj, congrArg D.tup⟩).mpr (List.ext_getElem? fun j => ?_), fun _ => rfl⟩
          by_cases lj : j < us.length
          · exact hj j (by omega)
          · rw [List.getElem?_eq_none (by have := rv.length; omega), List.getElem?_eq_none (by have := ru.length; omega)]
  | lst es =>
    obtain ⟨ua, us, rfl, hua, ru⟩ := hu.lst_inv
    obtain ⟨m, rfl, hle, hfit⟩ := hf.lst_inv
    refine ⟨_, rfl, _, rfl, ifF (dF (by intro e; cases e)) ⟨_, rfl, _, _, _, _, _, rfl, .ty _, hu.tyx hG, kit_of2 _ (by decide), ⟨_, rfl, ifF (isiB _) ⟨_, rfl, _, _, _, _, _, rfl, .ty _, hu.tyx hG, kit_of2 _ (by decide), ⟨_, rfl, ifF (isiI _) ⟨_, rfl, _, _, _, _, _, rfl, .ty _, hu.tyx hG, kit_of2 _ (by decide), ⟨_, rfl, ifF (isiS _) ⟨_, rfl, _, _, _, _, _, rfl, .ty _, hu.tyx hG, kit_of2 _ (by decide), ⟨_, rfl, ifF (isiT _) ⟨_, rfl, _, _, _, _, _, rfl, .ty _, hv.tyx hG, kit_of2 _ (by decide), ⟨_, rfl, ifD (fun h => ?_) (fun h => ⟨_, rfl, _, _, _, _, _, rfl, .ty _, hu.tyx hG, kit_of2 _ (by decide), ⟨_, rfl, ifF (notF (isiL _)) ?_⟩⟩)⟩⟩⟩⟩⟩⟩⟩⟩⟩⟩⟩
    · rw [isiL] at h
      exact no fun z => by rw [z] at h; cases h
    · rw [isiL] at h
      obtain ⟨ds, rfl⟩ : ∃ ds, d = .lst ds := by
        cases d with
        | lst ds => exact ⟨ds, rfl⟩
        | _ => cases h
      obtain ⟨va, vs, rfl, hva, rv⟩ := hv.lst_inv
      refine ⟨_, rfl, .ref va, _, rfl, seq_len (.inl (SqL.of (hG _ _ hva))), _, rfl, .ref ua, _, rfl, seq_len (.inl (SqL.of (hG _ _ hua))), rfl, _, rfl, ifD (fun hn => ?_) (fun hn => ?_)⟩
      · refine k false ⟨fun z => (by cases z), fun z => ?_⟩
        have z := (show D.lst ds = D.lst es ↔ ds = es from ⟨D.lst.inj, congrArg D.lst⟩).mp z
        subst z
        rw [rv.length, ru.length, dT rfl] at hn
        cases hn
      · have ln : vs.length = us.length := by
          cases q : decide (V.int (vs.length : Nat) = V.int (us.length : Nat)) with
          | true =>
            have := V.int.inj (dOf q)
            omega
          | false => rw [q] at hn; cases hn
        refine ⟨_, rfl, .ref ua, _, rfl, seq_len (.inl (SqL.of (hG _ _ hua))), us.length, rfl, by have := ru.length; omega, by have := ru.length; omega, for_it (walk_range (lo := 0) (n := (us.length : Int).toNat)) (fun i σ H' => H' = H ∧ (∃ v2, σ = [some (.ref va), some (.ref ua), v2]) ∧ ∀ j : Nat, j < i → ds[j]? = es[j]?) ?_ (fun _ _ _ _ _ => trivial) ?_ ?_⟩
        · exact ⟨rfl, ⟨_, rfl⟩, fun j h => absurd h (Nat.not_lt_zero j)⟩
        · rintro i x σ H1 H2 hi ⟨rfl, ⟨v2, rfl⟩, hj⟩ ⟨rfl, rfl⟩
          obtain ⟨u1, hu1⟩ := get_lt (xs := us) (i := i) (by omega)
          obtain ⟨v1, hv1⟩ := get_lt (xs := vs) (i := i) (by omega)
          obtain ⟨e1, he1, re1⟩ := ru.at_ hu1
          obtain ⟨d1, hd1, rd1⟩ := rv.at_ hv1
          have hv2 : atI vs ((0 : Int) + (i : Nat)) = some v1 := atI_int (by omega) (by rw [show ((0 : Int) + (i : Nat)).toNat = i by omega]; exact hv1)
          have hu2 : atI us ((0 : Int) + (i : Nat)) = some u1 := atI_int (by omega) (by rw [show ((0 : Int) + (i : Nat)).toNat = i by omega]; exact hu1)
          refine ⟨_, rfl, _, rfl, .inl ⟨_, _, _, _, rfl, rfl, SqL.of (hG _ _ hva), hv2, ⟨_, rfl, _, rfl, .inl ⟨_, _, _, _, rfl, rfl, SqL.of (hG _ _ hua), hu2, ⟨G, v1, u1, d1, e1, rfl, hG, rd1, re1, hfit e1 (List.mem_of_getElem? he1), fun b hb => ⟨_, rfl, ifD (fun q => ?_) (fun q => ?_)⟩⟩⟩⟩⟩⟩
          · refine k false ⟨fun z => (by cases z), fun z => ?_⟩
            have z := (show D.lst ds = D.lst es ↔ ds = es from ⟨D.lst.inj, congrArg D.lst⟩).mp z
            subst z
            rw [he1] at hd1
            rw [hb.mpr (Option.some.inj hd1).symm] at q
            cases q
          · refine ⟨rfl, ⟨_, rfl⟩, fun j h => ?_⟩
            by_cases ej : j = i
            · have hb1 : b = true := by
                cases b with
                | true => rfl
                | false => cases q
              rw [ej, hd1, he1, hb.mp hb1]
            · exact hj j (by omega)
        · rintro σ H1 ⟨rfl, ⟨v2, rfl⟩, hj⟩
          refine k true ⟨fun _ => (show D.lst ds = D.lst es ↔ ds = es from ⟨D.lst.inj, congrArg D.lst⟩).mpr (List.ext_getElem? fun j => ?_), fun _ => rfl⟩
          by_cases lj : j < us.length
          · exact hj j (by omega)
          · rw [List.getElem?_eq_none (by have := rv.length; omega), List.getElem?_eq_none (by have := ru.length; omega)]
theorem c_same_void (T : Top K mg) : Cal P w K mg base 1 "_law_same" (fun _ _ _ _ => False) := by
  exact cal_of (d_law_same T) (g_law_same T) (fun _ F => F.bindsN fun _ _ _ _ _ _ us hl => match us, hl with | [_, _], _ => rfl) sc_law_same (fun vs H Q E h => False.elim h) (fun cdv A outer s H vs Q E hroom h => False.elim h)
theorem c_same_at (T : Top K mg) : ∀ n, Cal P w K mg base (n + 1) "_law_same" (sp_same n)
  | 0 => c_same_void T
  | n + 1 => c_same_step T n (c_same_at T n)
theorem c_law_same (T : Top K mg) : Cal P w K mg base 9 "_law_same" (sp_same 8) := c_same_at T 8
/-- the same data anew -/
def sp_copy : Nat → Sp
  | 0 => fun _ _ _ _ => False
  | n + 1 => fun vs H Q _ => ∃ (G : Hp) (v : V) (d : D), vs = [v] ∧ Same G H ∧ Rep G v d ∧ Fit n d ∧ ∀ (H' : Hp) (u : V), Aft .no G H H' → Rep (grow G H H') u d → Q u H'
abbrev s_law_copy : Stmt := (top 54)
abbrev N_law_copy : List Str := ["_law_value", "_law_item"]
theorem sc_law_copy : FnScope ["_law_value", "_law_item"] ["_law_value"] (defScope s_law_copy) := ⟨rfl, rfl, rfl, by decide +kernel, rfl, by decide +kernel, by decide +kernel⟩
theorem c_copy_step (T : Top K mg) (n : Nat) (ih : Cal P w K mg base (n + 1) "_law_copy" (sp_copy n)) : Cal P w K mg base (n + 1 + 1) "_law_copy" (sp_copy (n + 1)) := by
  refine cal_of (d_law_copy T) (g_law_copy T) (fun _ F => F.bindsN fun _ _ _ _ _ _ us hl => match us, hl with | [_], _ => rfl) sc_law_copy (fun vs H Q E h => ?_) (fun cdv A outer s H vs Q E hroom h => ?_)
  · obtain ⟨G, v, d, rfl, hG, hv, hf, k⟩ := h
    rfl
  obtain ⟨G, v, d, rfl, hG, hv, hf, k⟩ := h
  refine ⟨_, (pss_cons (ps_if (pt_val (pe_callB (call_isiK2 K rfl) (by rfl) (f_isinstance T) (by decide +kernel) (pa_cons (pv 0) (pa_cons (pe_bltn (v := .ty "list") (by rfl) (f_list T) (by decide +kernel) rfl) pa_nil)))) (pss_one (ps_ret (pe_lc (own := [("_law_item", 1)]) rfl sc_law_copy.nd (pi_listK K rfl (pv 0)) (blkOk_by (own := [("_law_item", 1)]) (N := N_law_copy) (sc := defScope s_law_copy) (by decide +kernel)) (fun _ _ _ _ _ => (pg_name (i := 1) sc_law_copy.nd rfl (Or.inl rfl))) (fun _ _ _ _ _ => pts_nil) (fun _ _ _ _ _ => (pe_cl ih hroom (Nat.le_refl _) (by rfl) (pa_cons (pv 1) pa_nil)))))) pss_nil)
      (pss_cons (ps_if (pt_val (pe_callB (call_isiK2 K rfl) (by rfl) (f_isinstance T) (by decide +kernel) (pa_cons (pv 0) (pa_cons (pe_bltn (v := .ty "tuple") (by rfl) (f_tuple T) (by decide +kernel) rfl) pa_nil)))) (pss_one (ps_ret (pe_callTy (call_tuple_ofK K rfl) (by rfl) (f_tuple T) (by decide +kernel) (pa_cons (pe_lc (own := [("_law_item", 1)]) rfl sc_law_copy.nd (pi_tupK K rfl (pv 0)) (blkOk_by (own := [("_law_item", 1)]) (N := N_law_copy) (sc := defScope s_law_copy) (by decide +kernel)) (fun _ _ _ _ _ => (pg_name (i := 1) sc_law_copy.nd rfl (Or.inl rfl))) (fun _ _ _ _ _ => pts_nil) (fun _ _ _ _ _ => (pe_cl ih hroom (Nat.le_refl _) (by rfl) (pa_cons (pv 1) pa_nil)))) pa_nil)))) pss_nil)
      (pss_one (ps_ret (pv 0))))), ?_⟩
  have w0 : Wd .no G H := ⟨hG, trivial⟩
  have same : d.kL = false → d.kT = false → Q v H := fun _ _ => k H v (Aft.refl w0) (hv.mono grow_same)
  refine ⟨_, rfl, _, _, _, _, _, rfl, .ty _, hv.tyx hG, kit_of2 _ (by decide), ⟨_, rfl, ifD (fun h => ?_) (fun h => ⟨_, rfl, _, _, _, _, _, rfl, .ty _, hv.tyx hG, kit_of2 _ (by decide), ⟨_, rfl, ifD (fun h2 => ?_) (fun h2 => ?_)⟩⟩)⟩⟩
  · rw [isiL] at h
    obtain ⟨ds, rfl⟩ : ∃ ds, d = .lst ds := by
      cases d with
      | lst ds => exact ⟨ds, rfl⟩
      | _ => cases h
    obtain ⟨va, vs, rfl, hva, rv⟩ := hv.lst_inv
    obtain ⟨m, rfl, hle, hfit⟩ := hf.lst_inv
    have lv := rv.length
    refine ⟨_, rfl, va, rfl, ⟨_, SqL.of (hG _ _ hva)⟩, fun R hR => lc_it (walk_list (xs := vs)) (fun i H' => ∃ (G' : Hp) (ws : List V), Own .no G H [(R, ws, ds.take i)] G' H' ∧ Same G G') ?_ ?_ ?_ ?_⟩
    · exact ⟨G, [], (Own.start w0).newL hR .nil, Same.refl G⟩
    · rintro i H' _ ⟨G', ws, h, s⟩
      exact SqL.of (h.hs.g (s _ _ hva))
    · rintro i x H2 H3 hi ⟨G', ws, h, s⟩ ⟨rfl, hx⟩
      obtain ⟨d1, hd1, r1⟩ := rv.at_ hx
      refine ⟨rfl, _, rfl, G', x, d1, rfl, h.hs.wd.sub, r1.mono s, hfit d1 (List.mem_of_getElem? hd1), fun H4 u a4 r4 => ?_⟩
      have h5 := h.call a4
      have lw : ws.length = (ds.take i).length := (h5.rep _ List.mem_cons_self).length
      refine ⟨ws, h5.at_ List.mem_cons_self, small_lt (by have := List.length_take_le' i ds; omega), grow G' H3 H4, ws ++ [u], ?_, s.trans grow_same⟩
      rw [take_snoc hd1]
      exact h5.app (A := []) r4
    · rintro H2 ⟨G', ws, h, s⟩
      rw [lv, List.take_length] at h
      obtain ⟨h7, r7⟩ := h.fin
      exact k H2 (.ref R) (h7.aft w0) (h7.out r7)
  · rw [isiT] at h2
    obtain ⟨ds, rfl⟩ : ∃ ds, d = .tup ds := by
      cases d with
      | tup ds => exact ⟨ds, rfl⟩
      | _ => cases h2
    obtain ⟨va, vs, rfl, hva, rv⟩ := hv.tup_inv
    obtain ⟨m, rfl, hle, hfit⟩ := hf.tup_inv
    have lv := rv.length
    refine ⟨_, rfl, va, rfl, ⟨_, SqT.of (hG _ _ hva)⟩, fun R hR => lc_it (walk_tup (xs := vs)) (fun i H' => ∃ (G' : Hp) (ws : List V), Own .no G H [(R, ws, ds.take i)] G' H' ∧ Same G G') ?_ ?_ ?_ ?_⟩
    · exact ⟨G, [], (Own.start w0).newL hR .nil, Same.refl G⟩
    · rintro i H' _ ⟨G', ws, h, s⟩
      exact SqT.of (h.hs.g (s _ _ hva))
    · rintro i x H2 H3 hi ⟨G', ws, h, s⟩ ⟨rfl, hx⟩
      obtain ⟨d1, hd1, r1⟩ := rv.at_ hx
      refine ⟨rfl, _, rfl, G', x, d1, rfl, h.hs.wd.sub, r1.mono s, hfit d1 (List.mem_of_getElem? hd1), fun H4 u a4 r4 => ?_⟩
      have h5 := h.call a4
      have lw : ws.length = (ds.take i).length := (h5.rep _ List.mem_cons_self).length
      refine ⟨ws, h5.at_ List.mem_cons_self, small_lt (by have := List.length_take_le' i ds; omega), grow G' H3 H4, ws ++ [u], ?_, s.trans grow_same⟩
      rw [take_snoc hd1]
      exact h5.app (A := []) r4
    · rintro H2 ⟨G', ws, h, s⟩
      rw [lv, List.take_length] at h
      have r5 := h.rep _ List.mem_cons_self
      refine ⟨R, ws, rfl, .inl ⟨SqL.of (h.at_ List.mem_cons_self), fun l hl => ?_⟩⟩
      have h6 := (h.less (A := [(R, ws, ds)])).newG (o := .tup ws) hl
      exact k _ (.ref l) (h6.aft w0) (h6.out (.tup upd_same (r5.mono (same_new (h.hs.fG hl)))))
  · rw [isiL] at h
    rw [isiT] at h2
    exact ⟨_, rfl, same h h2⟩
theorem c_copy_void (T : Top K mg) : Cal P w K mg base 1 "_law_copy" (fun _ _ _ _ => False) := by
  exact cal_of (d_law_copy T) (g_law_copy T) (fun _ F => F.bindsN fun _ _ _ _ _ _ us hl => match us, hl with | [_], _ => rfl) sc_law_copy (fun vs H Q E h => False.elim h) (fun cdv A outer s H vs Q E hroom h => False.elim h)
theorem c_copy_at (T : Top K mg) : ∀ n, Cal P w K mg base (n + 1) "_law_copy" (sp_copy n)
  | 0 => c_copy_void T
  | n + 1 => c_copy_step T n (c_copy_at T n)
theorem c_law_copy (T : Top K mg) : Cal P w K mg base 9 "_law_copy" (sp_copy 8) := c_copy_at T 8
/-- a new list of the lists in a value -/
def sp_lists (K : PySem.W.Frag) : Nat → Sp
  | 0 => fun _ _ _ _ => False
  | n + 1 => fun vs H Q _ => ∃ (G : Hp) (v : V) (d : D) (ls : List Addr), vs = [v] ∧ Same G H ∧ Rep G v d ∧ Fit n d ∧ Lsts G v ls ∧ ls.length ≤ 100000 ∧ ∀ (H' : Hp) (R : Addr), Same H H' → H R = none → H' R = some (.lst (ls.map V.ref)) → Q (.ref R) H'
abbrev s_law_lists : Stmt := (top 55)
abbrev N_law_lists : List Str := ["_law_value", "_law_rows", "_law_item"]
theorem sc_law_lists : FnScope ["_law_value", "_law_rows", "_law_item"] ["_law_value"] (defScope s_law_lists) := ⟨rfl, rfl, rfl, by decide +kernel, rfl, by decide +kernel, by decide +kernel⟩
theorem c_lists_step (T : Top K mg) (n : Nat) (ih : Cal P w K mg base (n + 1) "_law_lists" (sp_lists K n)) : Cal P w K mg base (n + 1 + 1) "_law_lists" (sp_lists K (n + 1)) := by
  refine cal_of (d_law_lists T) (g_law_lists T) (fun _ F => F.bindsN fun _ _ _ _ _ _ us hl => match us, hl with | [_], _ => rfl) sc_law_lists (fun vs H Q E h => ?_) (fun cdv A outer s H vs Q E hroom h => ?_)
  · obtain ⟨G, v, d, ls, rfl, hG, hv, hf, hl, hn, k⟩ := h
    rfl
  obtain ⟨G, v, d, ls, rfl, hG, hv, hf, hl, hn, k⟩ := h
  refine ⟨_, (pss_cons (ps_set (i := 1) sc_law_lists.nd rfl (Or.inl rfl) (pe_lst pa_nil))
      (pss_mid (ps_if (pt_val (pe_callB (call_isiTK K rfl) (by rfl) (f_isinstance T) (by decide +kernel) (pa_cons (pv 0) (pa_cons (pe_tup (pa_cons (pe_bltn (v := .ty "list") (by rfl) (f_list T) (by decide +kernel) rfl) (pa_cons (pe_bltn (v := .ty "tuple") (by rfl) (f_tuple T) (by decide +kernel) rfl) pa_nil))) pa_nil)))) (pss_one (ps_for PassesOwn.never rfl (pi_seqK K rfl (pv 0)) (pg_name (i := 2) sc_law_lists.nd rfl (Or.inl rfl))
      (pss_one (ps_set (i := 1) sc_law_lists.nd rfl (Or.inl rfl) (pe_op op_cat (pv 1) (pe_cl ih hroom (Nat.le_refl _) (by rfl) (pa_cons (pv 2) pa_nil))))))) pss_nil)
      (pss_cons (ps_if (pt_val (pe_callB (call_isiK2 K rfl) (by rfl) (f_isinstance T) (by decide +kernel) (pa_cons (pv 0) (pa_cons (pe_bltn (v := .ty "list") (by rfl) (f_list T) (by decide +kernel) rfl) pa_nil)))) (pss_one (ps_set (i := 1) sc_law_lists.nd rfl (Or.inl rfl) (pe_op op_cat (pv 1) (pe_lst (pa_cons (pv 0) pa_nil))))) pss_nil)
      (pss_one (ps_ret (pv 1)))))), ?_⟩
  refine ⟨Nat.zero_le _, fun R0 hR0 => ?_⟩
  refine ⟨fun σ' H' => ∃ (R : Addr) (l1 : List Addr) (v2 : Option V), σ' = [some v, some (.ref R), v2] ∧ Same H H' ∧ H R = none ∧ H' R = some (.lst (l1.map V.ref)) ∧ l1.length ≤ 100000 ∧ (d.kL = true → ∃ a, v = .ref a ∧ ls = l1 ++ [a]) ∧ (d.kL = false → ls = l1), ?_, ?_⟩
  · rintro σ' H' ⟨R, l1, v2, rfl, sa, hR, hRa, len1, y1, y2⟩
    refine ⟨_, rfl, _, _, _, _, _, rfl, .ty _, hv.tyx (hG.trans sa), kit_of2 _ (by decide), _, rfl, ifD (fun h => ?_) (fun h => ?_)⟩
    · rw [isiL] at h
      obtain ⟨a, rfl, e1⟩ := y1 h
      refine ⟨_, rfl, _, rfl, by show 1 ≤ sizeLine; decide, fun q hq => ⟨R, q, _, _, rfl, rfl, same_new hq _ _ hRa, upd_same, ?_, fun q2 hq2 => ⟨_, rfl, k _ q2 (sa.trans ((same_new hq).trans (same_new hq2))) ((sa.trans (same_new hq)).free hq2) ?_⟩⟩⟩
      · rw [List.length_map]
        have hn2 : l1.length + 1 ≤ 100000 := by rw [e1, List.length_append] at hn; exact hn
        exact small_sz hn2
      · rw [upd_same, e1, List.map_append]
        rfl
    · rw [isiL] at h
      have e1 := y2 h
      exact ⟨_, rfl, k _ R sa hR (by rw [e1]; exact hRa)⟩
  · have s0 : Same H (upd H R0 (.lst [])) := same_new hR0
    refine ⟨_, rfl, by show 2 ≤ sizeLine; decide, fun p hp => ?_⟩
    have s1 : Same H (upd (upd H R0 (.lst [])) p (.tup [.ty "list", .ty "tuple"])) := s0.trans (same_new hp)
    have hp0 : R0 ≠ p := fun e => by rw [← e, upd_same] at hp; cases hp
    refine ⟨_, p, _, _, _, _, rfl, upd_same, .cons (.ty _) (.cons (.ty _) .nil), hv.tyx (hG.trans s1), kit_lt d, _, rfl, ?_⟩
    rw [isiL, isiT]
    have skip : d.kL = false → d.kT = false → Lsts G v ls → ∃ (R : Addr) (l1 : List Addr) (v2 : Option V), [some v, some (.ref R0), none] = [some v, some (.ref R), v2] ∧ Same H (upd (upd H R0 (.lst [])) p (.tup [.ty "list", .ty "tuple"])) ∧ H R = none ∧ (upd (upd H R0 (.lst [])) p (.tup [.ty "list", .ty "tuple"])) R = some (.lst (l1.map V.ref)) ∧ l1.length ≤ 100000 ∧ (d.kL = true → ∃ a, v = .ref a ∧ ls = l1 ++ [a]) ∧ (d.kL = false → ls = l1) := fun z1 z2 hl => by
      refine ⟨R0, [], none, rfl, s1, hR0, by rw [upd_ne hp0, upd_same]; rfl, Nat.zero_le _, fun z => (by rw [z1] at z; cases z), fun _ => hl.atom hv z1 z2⟩
    cases d with
    | non => exact ifF rfl (skip rfl rfl hl)
    | bl b => exact ifF rfl (skip rfl rfl hl)
    | int b => exact ifF rfl (skip rfl rfl hl)
    | str b => exact ifF rfl (skip rfl rfl hl)
    | lst ds =>
      obtain ⟨va, vs, rfl, hva, rv⟩ := hv.lst_inv
      obtain ⟨m, rfl, hle, hfit⟩ := hf.lst_inv
      have hva2 := hG _ _ hva
      obtain ⟨l0, e0, r0⟩ := hl.lst_inv hva
      have len0 : l0.length ≤ 100000 := by rw [e0] at hn; rw [List.length_append] at hn; omega
      refine ifT rfl ((.inl ⟨_, rfl, va, rfl, ⟨_, SqL.of (s1 _ _ hva2)⟩, for_it (walk_list (xs := vs)) (fun i σ H' => ∃ (R : Addr) (l1 l2 : List Addr) (v2 : Option V), σ = [some (.ref va), some (.ref R), v2] ∧ Same H H' ∧ H R = none ∧ H' R = some (.lst (l1.map V.ref)) ∧ l0 = l1 ++ l2 ∧ Lstss G (vs.drop i) l2) ?_ ?_ ?_ ?_⟩))
      · exact ⟨R0, [], l0, _, rfl, s1, hR0, by rw [upd_ne hp0, upd_same]; rfl, rfl, r0⟩
      · rintro i σ H' _ ⟨_, _, _, _, _, sa, _⟩
        exact SqL.of (sa _ _ hva2)
      · rintro i x σ Ha Hb hi ⟨R, l1, l2, v2, rfl, sa, hR, hRa, e1, r1⟩ ⟨rfl, hx⟩
        obtain ⟨d1, hd1, rd1⟩ := rv.at_ hx
        obtain ⟨lx, l3, rfl, rx, r3⟩ := r1.cons_inv hx
        rw [e1, List.length_append, List.length_append] at len0
        refine ⟨_, rfl, _, rfl, G, x, d1, lx, rfl, hG.trans sa, rd1, hfit d1 (List.mem_of_getElem? hd1), rx, by omega, fun Hc R1 sc hR1 hRc => ⟨R, R1, _, _, rfl, rfl, sc _ _ hRa, hRc, ?_, fun q hq => ?_⟩⟩
        · rw [List.length_map, List.length_map]
          exact small_sz (by omega)
        · have sq := sa.trans (sc.trans (same_new (o := .lst (l1.map V.ref ++ lx.map V.ref)) hq))
          exact ⟨q, l1 ++ lx, l3, _, rfl, sq, (sa.trans sc).free hq, by rw [upd_same, List.map_append], by rw [e1, List.append_assoc], r3⟩
      · rintro σ Ha ⟨R, l1, l2, v2, rfl, sa, hR, hRa, e1, r1⟩
        rw [List.drop_length] at r1
        have e2 : l2 = [] := by cases r1; rfl
        rw [e2, List.append_nil] at e1
        rw [e1] at e0 len0
        exact ⟨R, l1, _, rfl, sa, hR, hRa, len0, fun _ => ⟨va, rfl, e0⟩, fun z => (by cases z)⟩
    | tup ds =>
      obtain ⟨va, vs, rfl, hva, rv⟩ := hv.tup_inv
      obtain ⟨m, rfl, hle, hfit⟩ := hf.tup_inv
      have hva2 := hG _ _ hva
      obtain ⟨l0, e0, r0⟩ := hl.tup_inv hva
      have len0 : l0.length ≤ 100000 := by rw [e0] at hn; exact hn
      refine ifT rfl ((.inr ⟨_, rfl, va, rfl, ⟨_, SqT.of (s1 _ _ hva2)⟩, for_it (walk_tup (xs := vs)) (fun i σ H' => ∃ (R : Addr) (l1 l2 : List Addr) (v2 : Option V), σ = [some (.ref va), some (.ref R), v2] ∧ Same H H' ∧ H R = none ∧ H' R = some (.lst (l1.map V.ref)) ∧ l0 = l1 ++ l2 ∧ Lstss G (vs.drop i) l2) ?_ ?_ ?_ ?_⟩))
      · exact ⟨R0, [], l0, _, rfl, s1, hR0, by rw [upd_ne hp0, upd_same]; rfl, rfl, r0⟩
      · rintro i σ H' _ ⟨_, _, _, _, _, sa, _⟩
        exact SqT.of (sa _ _ hva2)
      · rintro i x σ Ha Hb hi ⟨R, l1, l2, v2, rfl, sa, hR, hRa, e1, r1⟩ ⟨rfl, hx⟩
        obtain ⟨d1, hd1, rd1⟩ := rv.at_ hx
        obtain ⟨lx, l3, rfl, rx, r3⟩ := r1.cons_inv hx
        rw [e1, List.length_append, List.length_append] at len0
        refine ⟨_, rfl, _, rfl, G, x, d1, lx, rfl, hG.trans sa, rd1, hfit d1 (List.mem_of_getElem? hd1), rx, by omega, fun Hc R1 sc hR1 hRc => ⟨R, R1, _, _, rfl, rfl, sc _ _ hRa, hRc, ?_, fun q hq => ?_⟩⟩
        · rw [List.length_map, List.length_map]
          exact small_sz (by omega)
        · have sq := sa.trans (sc.trans (same_new (o := .lst (l1.map V.ref ++ lx.map V.ref)) hq))
          exact ⟨q, l1 ++ lx, l3, _, rfl, sq, (sa.trans sc).free hq, by rw [upd_same, List.map_append], by rw [e1, List.append_assoc], r3⟩
      · rintro σ Ha ⟨R, l1, l2, v2, rfl, sa, hR, hRa, e1, r1⟩
        rw [List.drop_length] at r1
        have e2 : l2 = [] := by cases r1; rfl
        rw [e2, List.append_nil] at e1
        rw [e1] at e0 len0
        exact ⟨R, l1, _, rfl, sa, hR, hRa, len0, fun z => (by cases z), fun _ => e0⟩
theorem c_lists_void (T : Top K mg) : Cal P w K mg base 1 "_law_lists" (fun _ _ _ _ => False) := by
  exact cal_of (d_law_lists T) (g_law_lists T) (fun _ F => F.bindsN fun _ _ _ _ _ _ us hl => match us, hl with | [_], _ => rfl) sc_law_lists (fun vs H Q E h => False.elim h) (fun cdv A outer s H vs Q E hroom h => False.elim h)
theorem c_lists_at (T : Top K mg) : ∀ n, Cal P w K mg base (n + 1) "_law_lists" (sp_lists K n)
  | 0 => c_lists_void T
  | n + 1 => c_lists_step T n (c_lists_at T n)
theorem c_law_lists (T : Top K mg) : Cal P w K mg base 9 "_law_lists" (sp_lists K 8) := c_lists_at T 8
/-- the lists in a value are turned and longer, nothing else is changed -/
def sp_wreck : Sp := fun vs H Q _ => ∃ (G : Hp) (v : V) (d : D) (ls : List Addr), vs = [v] ∧ Same G H ∧ Rep G v d ∧ Fit 7 d ∧ Lsts G v ls ∧ ls.Nodup ∧ ls.length ≤ 100000 ∧ ∀ H' : Hp, Save ls H H' → Q .non H'
abbrev s_law_wreck : Stmt := (top 56)
abbrev N_law_wreck : List Str := ["_law_value", "_law_row"]
theorem sc_law_wreck : FnScope ["_law_value", "_law_row"] ["_law_value"] (defScope s_law_wreck) := ⟨rfl, rfl, rfl, by decide +kernel, rfl, by decide +kernel, by decide +kernel⟩
theorem c_law_wreck (T : Top K mg) : Cal P w K mg base (10) "_law_wreck" (sp_wreck) := by
  refine cal_of (d_law_wreck T) (g_law_wreck T) (fun _ F => F.bindsN fun _ _ _ _ _ _ us hl => match us, hl with | [_], _ => rfl) sc_law_wreck (fun vs H Q E h => ?_) (fun cdv A outer s H vs Q E hroom h => ?_)
  · obtain ⟨G, v, d, ls, rfl, hG, hv, hf, hl, nd, hn, k⟩ := h
    rfl
  obtain ⟨G, v, d, ls, rfl, hG, hv, hf, hl, nd, hn, k⟩ := h
  refine ⟨_, (pss_one (ps_for PassesOwn.never rfl (pi_listK K rfl (pe_cl (c_law_lists T) hroom (by decide) (by rfl) (pa_cons (pv 0) pa_nil))) (pg_name (i := 1) sc_law_wreck.nd rfl (Or.inl rfl))
      (pss_cons (ps_expr (pe_bm0 PySem.F.plainAttrs_list PySem.F.slot_list_reverse PySem.F.type_list_reverse mt_reverse (pv 1)))
      (pss_one (ps_expr (pe_bm PySem.F.plainAttrs_list PySem.F.slot_list_append PySem.F.type_list_append mt_append (pv 1) (pa_cons pe_str pa_nil))))))), ?_⟩
  refine ⟨_, rfl, G, v, d, ls, rfl, hG, hv, hf, hl, hn, fun H1 R s1 hR hR1 => ?_⟩
  have out : ∀ a ∈ ls, a ≠ R := fun a ma e => by
    obtain ⟨vs, hvs, _⟩ := hl.mem a ma
    rw [e] at hvs
    rw [hG _ _ hvs] at hR
    cases hR
  refine ⟨R, rfl, ⟨_, SqL.of hR1⟩, for_it (walk_list (xs := ls.map V.ref)) (fun i σ H' => (∃ v1, σ = [some v, v1]) ∧ Save ls H H' ∧ H' R = some (.lst (ls.map V.ref)) ∧ ∀ (j : Nat) (a : Addr), i ≤ j → ls[j]? = some a → ∃ vs, H' a = some (.lst vs) ∧ vs.length ≤ 100000) ?_ ?_ ?_ ?_⟩
  · refine ⟨⟨_, rfl⟩, fun a o z _ => s1 a o z, hR1, fun j a _ e => ?_⟩
    obtain ⟨vs, hvs, hle⟩ := hl.mem a (List.mem_of_getElem? e)
    exact ⟨vs, s1 _ _ (hG _ _ hvs), hle⟩
  · rintro i σ H' _ ⟨_, _, h, _⟩
    exact SqL.of h
  · rintro i x σ Ha Hb hi ⟨⟨v1, rfl⟩, sv, hRa, rest⟩ ⟨rfl, hx⟩
    rw [List.getElem?_map] at hx
    obtain ⟨a, ea⟩ := get_lt (xs := ls) (i := i) (by rw [List.length_map] at hi; exact hi)
    rw [ea] at hx
    cases hx
    obtain ⟨vs, hvs, hle⟩ := rest i a (Nat.le_refl i) ea
    have ma := List.mem_of_getElem? ea
    refine ⟨_, rfl, .inl ⟨rfl, _, SqL.of hvs⟩, a, vs, rfl, rfl, hvs, _, rfl, .inl ⟨rfl, _, SqL.of upd_same⟩, a, _, _, rfl, rfl, upd_same, ?_, ?_⟩
    · rw [List.length_reverse]
      exact small_lt (by omega)
    · refine ⟨⟨_, rfl⟩, fun b o z nb => ?_, ?_, fun j b hj eb => ?_⟩
      · have ne : b ≠ a := fun e => nb (by rw [e]; exact ma)
        rw [upd_ne ne, upd_ne ne]
        exact sv b o z nb
      · rw [upd_ne (out a ma).symm, upd_ne (out a ma).symm]
        exact hRa
      · have ne : b ≠ a := fun e => by
          subst e
          have := (List.getElem?_inj (lt_get ea) nd).mp (ea.trans eb.symm)
          omega
        rw [upd_ne ne, upd_ne ne]
        exact rest j b (by omega) eb
  · rintro σ Ha ⟨_, sv, _⟩
    exact k Ha sv
end

end Lag

namespace Lag
open PySem PySem.Spec PyProof.Rows L2
/-! ### readers of parts, parts of readers, what a law expects -/
section
variable {P : Program} {w : World} {K : PySem.W.Frag} {mg : Str → Option Value} {base : Heap}
def sp_reader_of (C : Addr) : Sp := fun vs H Q _ => ∃ (G : Hp) (v : V) (p : Pt), vs = [v] ∧ Same G H ∧ Rep G v (dPt p) ∧ OkPt 400 p ∧ ∀ (H' : Hp) (u : V), Aft .no G H H' → RdAt (grow G H H') C u p → Q u H'
abbrev s_law_reader_of : Stmt := (top 57)
abbrev N_law_reader_of : List Str := ["_law_parts", "_law_row"]
theorem sc_law_reader_of : FnScope ["_law_parts", "_law_row"] ["_law_parts"] (defScope s_law_reader_of) := ⟨rfl, rfl, rfl, by decide +kernel, rfl, by decide +kernel, by decide +kernel⟩
theorem c_law_reader_of (T : Top K mg) : Cal P w K mg base (10) "_law_reader_of" (sp_reader_of (He.ga K "Reader")) := by
  refine cal_of (d_law_reader_of T) (g_law_reader_of T) (fun _ F => F.bindsN fun _ _ _ _ _ _ us hl => match us, hl with | [_], _ => rfl) sc_law_reader_of (fun vs H Q E h => ?_) (fun cdv A outer s H vs Q E hroom h => ?_)
  · obtain ⟨G, v, p, rfl, hG, hv, ok, k⟩ := h
    rfl
  obtain ⟨G, v, p, rfl, hG, hv, ok, k⟩ := h
  refine ⟨_, (pss_one (ps_ret (pe_mkc (m_Reader T) hroom (by decide) (by rfl) (pa_cons (pe_ix (ix_tupK K rfl) (pv 0) pe_int (fun _ _ => rfl)) (pa_cons (pe_ix (ix_tupK K rfl) (pv 0) pe_int (fun _ _ => rfl)) (pa_cons (pe_ix (ix_tupK K rfl) (pv 0) pe_int (fun _ _ => rfl)) (pa_cons (pe_lc (own := [("_law_row", 1)]) rfl sc_law_reader_of.nd (pi_listK K rfl (pe_ix (ix_tupK K rfl) (pv 0) pe_int (fun _ _ => rfl))) (blkOk_by (own := [("_law_row", 1)]) (N := N_law_reader_of) (sc := defScope s_law_reader_of) (by decide +kernel)) (fun _ _ _ _ _ => (pg_name (i := 1) sc_law_reader_of.nd rfl (Or.inl rfl))) (fun _ _ _ _ _ => pts_nil) (fun _ _ _ _ _ => (pe_callTy (call_list_ofK K rfl) (by rfl) (f_list T) (by decide +kernel) (pa_cons (pv 1) pa_nil)))) (pa_cons (pe_callTy (call_list_ofK K rfl) (by rfl) (f_list T) (by decide +kernel) (pa_cons (pe_ix (ix_tupK K rfl) (pv 0) pe_int (fun _ _ => rfl)) pa_nil)) pa_nil)))))))), ?_⟩
  obtain ⟨a, m, f, mvs, fvs, rfl, ha, hm, rm, hf, rf⟩ := hv.pt_inv
  have w0 : Wd .no G H := ⟨hG, trivial⟩
  have ha2 := hG _ _ ha
  obtain ⟨m', e, hin⟩ := RowsIn.of (K := K) hG (v := .ref m) (rows := p.mv) (.lst hm rm)
  cases e
  refine ⟨_, rfl, a, _, _, _, rfl, rfl, SqT.of ha2, rfl, _, rfl, a, _, _, _, rfl, rfl, SqT.of ha2, rfl, _, rfl, a, _, _, _, rfl, rfl, SqT.of ha2, rfl, _, rfl, a, _, _, _, rfl, rfl, SqT.of ha2, rfl, m, rfl, ⟨_, SqL.of (hG _ _ hm)⟩, fun R hR => lc_rows (Own.start w0) hin (Nat.le_trans ok.most (by decide)) hR (fun _ => rfl) (fun _ => rfl) fun G1 ws H1 o1 sg sh => ?_⟩
  refine ⟨_, rfl, a, _, _, _, rfl, rfl, SqT.of (sh _ _ ha2), rfl, f, fvs, rfl, .inl (SqL.of (sh _ _ (hG _ _ hf))), fun F hF => ?_⟩
  have o2 := o1.newL hF (rf.mono sg)
  obtain ⟨o3, r3⟩ := o2.fin
  obtain ⟨o4, r4⟩ := o3.fin
  generalize hG4 : upd (upd G1 F (.lst fvs)) R (.lst ws) = G4 at o4 r4
  have r3' : Rep G4 (.ref F) (dFins p.fi) := by
    rw [← hG4]
    exact r3.mono (same_new (o3.hs.m R (.lst ws) (ofL_mem (x := (R, ws, p.mv.map dRow)) o3.nd List.mem_cons_self)).2.1)
  intro x dx hx hdx ne
  obtain ⟨R', eR, hinR⟩ := RowsIn.of (K := K) o4.hs.wd.sub (v := .ref R) (rows := p.mv) r4
  cases eR
  obtain ⟨F', eF, hinF⟩ := FinsIn.of (K := K) o4.hs.wd.sub (v := .ref F) (fi := p.fi) r3'
  cases eF
  refine ⟨G4, _, x, dx, R, F, p, rfl, rfl, hx, hdx, ne, o4.hs.wd.sub, hinR, hinF, ok, fun H5 a5 r5 => ⟨rfl, ?_⟩⟩
  have o5 := o4.call0 a5
  exact k H5 _ (o5.aft w0) (RdAt.mono o5.hs.out r5)
def sp_parts_of (C : Addr) : Sp := fun vs H Q _ => ∃ (G : Hp) (v : V) (p : Pt), vs = [v] ∧ Same G H ∧ RdAt G C v p ∧ ∀ (H' : Hp) (u : V), Aft .no G H H' → Rep (grow G H H') u (dPt p) → Q u H'
abbrev s_law_reader_parts_of : Stmt := (top 58)
abbrev N_law_reader_parts_of : List Str := ["_law_reader_here"]
theorem sc_law_reader_parts_of : FnScope ["_law_reader_here"] ["_law_reader_here"] (defScope s_law_reader_parts_of) := ⟨rfl, rfl, rfl, by decide +kernel, rfl, by decide +kernel, by decide +kernel⟩
theorem c_law_reader_parts_of (T : Top K mg) : Cal P w K mg base (3) "_law_reader_parts_of" (sp_parts_of (He.ga K "Reader")) := by
  refine cal_of (d_law_reader_parts_of T) (g_law_reader_parts_of T) (fun _ F => F.bindsN fun _ _ _ _ _ _ us hl => match us, hl with | [_], _ => rfl) sc_law_reader_parts_of (fun vs H Q E h => ?_) (fun cdv A outer s H vs Q E hroom h => ?_)
  · obtain ⟨G, v, p, rfl, hG, hR, k⟩ := h
    rfl
  obtain ⟨G, v, p, rfl, hG, hR, k⟩ := h
  refine ⟨_, (pss_one (ps_ret (pe_tup (pa_cons (pe_pr (c_Reader_read T) hroom (by decide) (pv 0)) (pa_cons (pe_pr (c_Reader_write T) hroom (by decide) (pv 0)) (pa_cons (pe_pr (c_Reader_first T) hroom (by decide) (pv 0)) (pa_cons (pe_pr (c_Reader_moves T) hroom (by decide) (pv 0)) (pa_cons (pe_pr (c_Reader_finals T) hroom (by decide) (pv 0)) pa_nil)))))))), ?_⟩
  obtain ⟨x, dx, m, f, rfl, hx, hd, rm, rf, ok⟩ := id hR
  have w0 : Wd .no G H := ⟨hG, trivial⟩
  have hx2 := hG _ _ hx
  refine ⟨_, rfl, x, dx, _, rfl, hx2, G, _, p, rfl, hG, hR, _, rfl, x, dx, _, rfl, hx2, G, _, p, rfl, hG, hR, _, rfl, x, dx, _, rfl, hx2, G, _, p, rfl, hG, hR, _, rfl, x, dx, _, rfl, hx2, G, _, p, rfl, hG, hR, fun H1 u1 a1 r1 => ?_⟩
  have o1 := (Own.start w0).call0 a1
  have s1 : Same G (grow G H H1) := grow_same
  refine ⟨_, rfl, x, dx, _, rfl, o1.hs.g (s1 _ _ hx), _, _, p, rfl, o1.hs.wd.sub, hR.mono s1, fun H2 u2 a2 r2 => ?_⟩
  have o2 := o1.call0 a2
  refine ⟨by show 5 ≤ sizeLine; decide, fun t ht => ?_⟩
  have o3 := o2.newG (o := .tup [.str p.rd, .str p.wr, .str p.first, u1, u2]) ht
  have sm := same_new (o := .tup [.str p.rd, .str p.wr, .str p.first, u1, u2]) (o2.hs.fG ht)
  exact k _ _ (o3.aft w0) (o3.out (.tup upd_same (.cons (.str _) (.cons (.str _) (.cons (.str _) (.cons ((r1.mono grow_same).mono sm) (.cons (r2.mono sm) .nil)))))))
/-- flags of what is reached -/
def sp_reached : Sp := fun vs H Q _ => ∃ (G : Hp) (r sa : Addr) (rvs : List V) (rows : List (List Nat)) (st : List Nat), vs = [.ref r, .ref sa] ∧ Same G H ∧ G r = some (.lst rvs) ∧ Reps G rvs (rows.map dNs) ∧ G sa = some (.lst (st.map vN)) ∧
  rows.length ≤ 64 ∧ st.Nodup ∧ (∀ k ∈ st, k < rows.length) ∧ (∀ i j, In2 rows i j → j < rows.length) ∧
  ∀ (H' : Hp) (a : Addr) (bs : List Bool), Aft .no G H H' → bs.length = rows.length → Tells bs (Rch (In2 rows) (· ∈ st)) → grow G H H' a = some (.lst (bs.map V.bl)) → Q (.ref a) H'
abbrev s_law_reached : Stmt := (top 59)
abbrev N_law_reached : List Str := ["_law_rows", "_law_start", "_law_found", "_law_todo", "_law_tick", "_law_goal", "_law_k"]
theorem sc_law_reached : FnScope ["_law_rows", "_law_start", "_law_found", "_law_todo", "_law_tick", "_law_goal", "_law_k"] ["_law_rows", "_law_start"] (defScope s_law_reached) := ⟨rfl, rfl, rfl, by decide +kernel, rfl, by decide +kernel, by decide +kernel⟩
theorem c_law_reached (T : Top K mg) : Cal P w K mg base (1) "_law_reached" (sp_reached) := by
  refine cal_of (d_law_reached T) (g_law_reached T) (fun _ F => F.bindsN fun _ _ _ _ _ _ us hl => match us, hl with | [_, _], _ => rfl) sc_law_reached (fun vs H Q E h => ?_) (fun cdv A outer s H vs Q E hroom h => ?_)
  · obtain ⟨G, r, sa, rvs, rows, st, rfl, hG, hr, rr, hs, n64, nd, hst, hgo, k⟩ := h
    rfl
  obtain ⟨G, r, sa, rvs, rows, st, rfl, hG, hr, rr, hs, n64, nd, hst, hgo, k⟩ := h
  refine ⟨_, (pss_cons (ps_setLc (i := 2) (own := [("_law_k", 6)]) rfl sc_law_reached.nd rfl rfl (sw_true rfl rfl rfl (by decide +kernel)) (pi_range1 (by rfl) (f_range T) (pa_cons (pe_callB (call_len_seqK K rfl) (by rfl) (f_len T) PySem.boot_len (pa_cons (pv 0) pa_nil)) pa_nil)) (blkOk_by (own := [("_law_k", 6)]) (N := N_law_reached) (sc := defScope s_law_reached) (by decide +kernel)) (fun _ _ _ _ _ => (pg_name (i := 6) sc_law_reached.nd rfl (Or.inl rfl))) (fun _ _ _ _ _ => pts_nil) (fun _ _ _ _ _ => (pe_cmpR (op_in_seqK K rfl) (pv 6) (pv 1) (by with_unfolding_all rfl))))
      (pss_cons (ps_set (i := 3) sc_law_reached.nd rfl (Or.inl rfl) (pe_callTy (call_list_ofK K rfl) (by rfl) (f_list T) (by decide +kernel) (pa_cons (pv 1) pa_nil)))
      (pss_cons (ps_for PassesOwn.never rfl (pi_range1 (by rfl) (f_range T) (pa_cons (pe_callB (call_len_seqK K rfl) (by rfl) (f_len T) PySem.boot_len (pa_cons (pv 0) pa_nil)) pa_nil)) (pg_name (i := 4) sc_law_reached.nd rfl (Or.inl rfl))
      (pss_one (ps_if (pt_cmpR op_lt (pv 4) (pe_callB (call_len_seqK K rfl) (by rfl) (f_len T) PySem.boot_len (pa_cons (pv 3) pa_nil)) (nomark _)) (pss_one (ps_for PassesOwn.never rfl (pi_listK K rfl (pe_ix (ix_listK K rfl) (pv 0) (pe_ix (ix_listK K rfl) (pv 3) (pv 4) (fun _ _ => rfl)) (fun _ _ => rfl))) (pg_name (i := 5) sc_law_reached.nd rfl (Or.inl rfl))
      (pss_one (ps_if (pt_not (pt_val (pe_ix (ix_listK K rfl) (pv 2) (pv 5) (fun _ _ => rfl)))) (pss_cons (ps_asg pe_bl (pg_sub (pv 2) (pv 5) set_list))
      (pss_one (ps_set (i := 3) sc_law_reached.nd rfl (Or.inl rfl) (pe_op op_cat (pv 3) (pe_lst (pa_cons (pv 5) pa_nil)))))) pss_nil)))) pss_nil)))
      (pss_one (ps_ret (pv 2)))))), ?_⟩
  have w0 : Wd .no G H := ⟨hG, trivial⟩
  have lr := len_of rr
  refine ⟨_, rfl, r, rvs, rfl, .inl (SqL.of (hG _ _ hr)), rvs.length, rfl, by omega, by omega, fun Fl hFl => lc_it (walk_range (lo := 0) (n := (rvs.length : Int).toNat)) (fun i H' => ∃ bs : List Bool, Own .no G H [(Fl, bs.map V.bl, bs.map D.bl)] G H' ∧ bs.length = i ∧ ∀ k b, bs[k]? = some b → (b = true ↔ k ∈ st)) ?_ (fun _ _ _ _ => trivial) ?_ ?_⟩
  · exact ⟨[], (Own.start w0).newL (vs := []) (ds := []) hFl .nil, rfl, fun k b e => by simp at e⟩
  · rintro i x Ha Hb hi ⟨bs, oa, eb, hb⟩ ⟨rfl, rfl⟩
    refine ⟨rfl, _, rfl, _, rfl, sa, _, rfl, .inl (SqL.of (oa.hs.g hs)), rfl, ?_, bs.map V.bl, oa.at_ List.mem_cons_self, by rw [List.length_map]; exact small_lt (by omega), bs ++ [inV (V.int (0 + (i : Nat))) (st.map vN)], ?_, by rw [List.length_append, eb]; rfl, fun k b e => ?_⟩
    · exact List.all_eq_true.mpr fun v mv => by
        obtain ⟨j, _, rfl⟩ := List.mem_map.mp mv
        rfl
    · have h := oa.app (A := []) (.bl (inV (V.int (0 + (i : Nat))) (st.map vN)))
      rw [List.map_append, List.map_append]
      exact h
    · by_cases lt : k < bs.length
      · rw [List.getElem?_append_left lt] at e
        exact hb k b e
      · have hk : k < (bs ++ [inV (V.int (0 + (i : Nat))) (st.map vN)]).length := lt_get e
        rw [List.length_append] at hk
        have ek : k = bs.length := by simp at hk; omega
        rw [ek, List.getElem?_concat_length] at e
        rw [← Option.some.inj e, ek, eb, Int.zero_add]
        exact inV_nat
  · rintro Ha ⟨bs, oa, eb, hb⟩
    rw [show (rvs.length : Int).toNat = rows.length by omega] at eb
    refine ⟨_, rfl, sa, _, rfl, .inl (SqL.of (oa.hs.g hs)), fun W hW => ?_⟩
    have ob := oa.newL hW (Reps.nats st)
    have d0 : Dfs (In2 rows) (· ∈ st) rows.length bs st fun _ => False := by
      have z0 : ∀ k ∈ st, bs[k]? = some true := fun k mk => by
        obtain ⟨b, e⟩ := get_lt (xs := bs) (i := k) (by have := hst k mk; omega)
        rw [e, (hb k b e).mpr mk]
      exact ⟨eb, z0, fun k e => .base ((hb k true e).mp rfl), z0, fun i j e nm => (nm ((hb i true e).mp rfl)).elim⟩
    have full0 : ∀ k, bs[k]? = some true → k ∈ st := fun k e => (hb k true e).mp rfl
    refine ⟨_, rfl, r, rvs, rfl, .inl (SqL.of (ob.hs.g hr)), rvs.length, rfl, by omega, by omega, for_it (walk_range (lo := 0) (n := (rvs.length : Int).toNat)) (fun i σ H' => ∃ (bs : List Bool) (td : List Nat) (W : Addr) (v4 v5 v6 : Option V), σ = [some (.ref r), some (.ref sa), some (.ref Fl), some (.ref W), v4, v5, v6] ∧
      Own .no G H [(W, td.map vN, td.map dN), (Fl, bs.map V.bl, bs.map D.bl)] G H' ∧ td.Nodup ∧ (∀ k ∈ td, k < rows.length) ∧ Dfs (In2 rows) (· ∈ st) rows.length bs (td.drop i) (fun _ => False) ∧ (∀ k, bs[k]? = some true → k ∈ td) ∧ ∀ k ∈ td, bs[k]? = some true) ?_ (fun _ _ _ _ _ => trivial) ?_ ?_⟩
    · exact ⟨bs, st, W, _, _, _, rfl, ob, nd, hst, d0, full0, d0.base⟩
    · clear ob oa hb d0 eb full0
      rintro i x σ H1 H2 hi ⟨bs, td, W, v4, v5, v6, rfl, o1, nd1, lt1, d1, fu1, fl1⟩ ⟨rfl, rfl⟩
      refine ⟨_, rfl, _, rfl, W, _, rfl, .inl (SqL.of (o1.at_ List.mem_cons_self)), _, _, rfl, rfl, _, rfl, ifD (fun h => ?_) (fun h => ?_)⟩
      · have h := dOf h
        rw [List.length_map] at h
        have hi2 : i < td.length := by omega
        obtain ⟨s, hs1⟩ := get_lt hi2
        have ms := List.mem_of_getElem? hs1
        have ls := lt1 s ms
        obtain ⟨row, hrow⟩ := get_lt ls
        obtain ⟨rv, hrv, rrv⟩ := rr.mapOf hrow
        obtain ⟨ra, rfl, hra⟩ := rrv.nats_inv
        have sR := d1.sound s (fl1 s ms)
        have dr : td.drop i = s :: td.drop (i + 1) := by
          obtain ⟨q1, q2⟩ := List.getElem?_eq_some_iff.mp hs1
          rw [List.drop_eq_getElem_cons q1, q2]
        have d2 : Dfs (In2 rows) (· ∈ st) rows.length bs (td.drop (i + 1)) (· = s) := d1.pop (fun k mk => by rw [dr]; exact List.mem_cons_of_mem _ mk) (fun k mk => by rw [dr] at mk; exact (List.mem_cons.mp mk).symm) (fun _ z => z)
        refine ⟨_, rfl, _, rfl, _, rfl, W, _, _, _, rfl, rfl, SqL.of (o1.at_ List.mem_cons_self), atI_int (x := vN s) (by omega) (by rw [show ((0 : Int) + (i : Nat)).toNat = i by omega, List.getElem?_map, hs1]; rfl), r, _, _, _, rfl, rfl, SqL.of (o1.hs.g hr), atI_nat hrv, ra, rfl, ⟨_, SqL.of (o1.hs.g hra)⟩, for_it (walk_list (xs := row.map vN)) (fun j σ H' => ∃ (bs : List Bool) (td2 : List Nat) (W : Addr) (v5 v6 : Option V), σ = [some (.ref r), some (.ref sa), some (.ref Fl), some (.ref W), some (.int (0 + (i : Nat))), v5, v6] ∧
          Own .no G H [(W, td2.map vN, td2.map dN), (Fl, bs.map V.bl, bs.map D.bl)] G H' ∧ td2.Nodup ∧ (∀ k ∈ td2, k < rows.length) ∧ i + 1 ≤ td2.length ∧ Dfs (In2 rows) (· ∈ st) rows.length bs (td2.drop (i + 1)) (· = s) ∧ (∀ k, bs[k]? = some true → k ∈ td2) ∧ (∀ k ∈ td2, bs[k]? = some true) ∧
          ∀ (j' t : Nat), j' < j → row[j']? = some t → bs[t]? = some true) ?_ ?_ ?_ ?_⟩
        · exact ⟨bs, td, W, _, _, rfl, o1, nd1, lt1, hi2, d2, fu1, fl1, fun j' t h => absurd h (Nat.not_lt_zero j')⟩
        · rintro j σ H' _ ⟨_, _, _, _, _, _, oa, _⟩
          exact SqL.of (oa.hs.g hra)
        · rintro j xv σ Ha Hb hj ⟨bs, td2, W, v5, v6, rfl, oa, nda, lta, la, da, fua, fla, hj'⟩ ⟨rfl, hxv⟩
          rw [List.getElem?_map] at hxv
          obtain ⟨t, ht⟩ := get_lt (xs := row) (i := j) (by rw [List.length_map] at hj; exact hj)
          rw [ht] at hxv
          cases hxv
          have go : In2 rows s t := ⟨row, hrow, List.mem_of_getElem? ht⟩
          have lt := hgo s t go
          obtain ⟨b, hb⟩ := get_lt (xs := bs) (i := t) (by rw [da.len]; exact lt)
          have nxt : ∀ {bs2 : List Bool}, (∀ k : Nat, bs[k]? = some true → bs2[k]? = some true) → bs2[t]? = some true → ∀ (j' t : Nat), j' < j + 1 → row[j']? = some t → bs2[t]? = some true := by
            intro bs2 up new j' t' l e
            by_cases z : j' = j
            · rw [z, ht] at e
              rw [← Option.some.inj e]
              exact new
            · exact up t' (hj' j' t' (by omega) e)
          refine ⟨_, rfl, _, rfl, Fl, _, _, V.bl b, rfl, rfl, SqL.of (oa.at_ (List.mem_cons_of_mem _ List.mem_cons_self)), atI_nat (by rw [List.getElem?_map, hb]; rfl), _, rfl, ?_⟩
          cases b with
          | true => exact ifF rfl ⟨bs, td2, W, _, _, rfl, oa, nda, lta, la, da, fua, fla, nxt (fun _ z => z) hb⟩
          | false =>
            have nm : t ∉ td2 := fun z => by rw [fla t z] at hb; cases hb
            have l2 : td2.length ≤ 64 := by
              have := count_le (bs := bs) nda (by rw [da.len]; exact lta)
              rw [da.len] at this
              omega
            have ob := oa.putE (A := [(W, td2.map vN, td2.map dN)]) (u := (bs.map V.bl).set t (V.bl true)) (Reps.bls (bs.set t true)) List.map_set.symm
            refine ifT rfl ⟨_, rfl, _, rfl, Fl, _, _, t, rfl, rfl, oa.at_ (List.mem_cons_of_mem _ List.mem_cons_self), ixN_nat (by rw [List.length_map, da.len]; exact lt), _, rfl, _, rfl, by show 1 ≤ sizeLine; decide, fun q hq => ?_⟩
            have oc := ob.drop (o := .lst [vN t]) hq
            refine ⟨W, q, _, _, rfl, rfl, oc.at_ List.mem_cons_self, upd_same, by rw [List.length_map]; exact small_sz (by show _ + 1 ≤ _; omega), fun W2 hW2 => ?_⟩
            have od := (oc.less (A := [(W, td2.map vN, td2.map dN)])).newL (vs := td2.map vN ++ [vN t]) (ds := (td2 ++ [t]).map dN) hW2 (by
              have := Reps.nats (G := G) (td2 ++ [t])
              rw [List.map_append] at this
              exact this)
            refine ⟨bs.set t true, td2 ++ [t], W2, _, _, rfl, ?_, ?_, fun k mk => ?_, by rw [List.length_append]; exact Nat.le_trans la (Nat.le_add_right _ _), ?_, fun k e => ?_, fun k mk => ?_, nxt (fun _ z => set_true z) (List.getElem?_set_self (lt_get hb))⟩
            · rw [List.map_append]
              exact od
            · exact List.nodup_append.mpr ⟨nda, List.nodup_cons.mpr ⟨List.not_mem_nil, .nil⟩, fun a ma b mb => by rw [List.mem_singleton.mp mb]; exact fun e => nm (e ▸ ma)⟩
            · rcases List.mem_append.mp mk with z | z
              · exact lta k z
              · rw [List.mem_singleton.mp z]; exact lt
            · have h := da.push hb (sR.step go)
              rw [List.drop_append_of_le_length la]
              exact h
            · rcases set_back e with z | z
              · rw [z]; exact List.mem_append_right _ (List.mem_singleton.mpr rfl)
              · exact List.mem_append_left _ (fua k z)
            · rcases List.mem_append.mp mk with z | z
              · exact set_true (fla k z)
              · rw [List.mem_singleton.mp z]; exact List.getElem?_set_self (lt_get hb)
        · rintro σ Ha ⟨bs, td2, W, v5, v6, rfl, oa, nda, lta, la, da, fua, fla, hj'⟩
          refine ⟨bs, td2, W, _, _, _, rfl, oa, nda, lta, da.done fun j' go => ?_, fua, fla⟩
          obtain ⟨row', e1, e2⟩ := go
          rw [hrow] at e1
          cases e1
          obtain ⟨j1, e3⟩ := List.mem_iff_getElem?.mp e2
          exact hj' j1 j' (by have := lt_get e3; rw [List.length_map]; omega) e3
      · have h := dNot h
        rw [List.length_map] at h
        have le : td.length ≤ i := by omega
        rw [List.drop_eq_nil_of_le le] at d1
        refine ⟨bs, td, W, _, _, _, rfl, o1, nd1, lt1, ?_, fu1, fl1⟩
        rw [List.drop_eq_nil_of_le (Nat.le_succ_of_le le)]
        exact d1
    · rintro σ H1 ⟨bs, td, W, v4, v5, v6, rfl, o1, nd1, lt1, d1, fu1, fl1⟩
      have le : td.length ≤ rows.length := by
        have := count_le (bs := bs) nd1 (by rw [d1.len]; exact lt1)
        rwa [d1.len] at this
      rw [List.drop_eq_nil_of_le (by omega)] at d1
      obtain ⟨o2, r2⟩ := (o1.less (A := [(W, td.map vN, td.map dN)])).fin
      exact ⟨_, rfl, k _ Fl bs (o2.aft w0) d1.len d1.end_ (o2.hs.out _ _ upd_same)⟩
end

end Lag

namespace Lag
open PySem PySem.Spec PyProof.Rows L2
/-! ### the useful states, as the law finds them -/
section
variable {P : Program} {w : World} {K : PySem.W.Frag} {mg : Str → Option Value} {base : Heap}
def sp_due : Sp := fun vs H Q _ => ∃ (G : Hp) (v : V) (p : Pt), vs = [v] ∧ Same G H ∧ Rep G v (dPt p) ∧ OkPt 400 p ∧ ∀ (H' : Hp) (u : V), Aft .no G H H' → Rep (grow G H H') u (dUse p) → Q u H'
abbrev s_law_due : Stmt := (top 60)
abbrev N_law_due : List Str := ["_law_parts", "_law_size", "_law_ahead", "_law_k", "_law_back", "_law_goal", "_law_from_start", "_law_to_end", "_law_row", "_law_step"]
theorem sc_law_due : FnScope ["_law_parts", "_law_size", "_law_ahead", "_law_k", "_law_back", "_law_goal", "_law_from_start", "_law_to_end", "_law_row", "_law_step"] ["_law_parts"] (defScope s_law_due) := ⟨rfl, rfl, rfl, by decide +kernel, rfl, by decide +kernel, by decide +kernel⟩
theorem c_law_due (T : Top K mg) : Cal P w K mg base (2) "_law_due" (sp_due) := by
  refine cal_of (d_law_due T) (g_law_due T) (fun _ F => F.bindsN fun _ _ _ _ _ _ us hl => match us, hl with | [_], _ => rfl) sc_law_due (fun vs H Q E h => ?_) (fun cdv A outer s H vs Q E hroom h => ?_)
  · obtain ⟨G, v, p, rfl, hG, hv, ok, k⟩ := h
    rfl
  obtain ⟨G, v, p, rfl, hG, hv, ok, k⟩ := h
  refine ⟨_, (pss_cons (ps_set (i := 1) sc_law_due.nd rfl (Or.inl rfl) (pe_callB (call_len_seqK K rfl) (by rfl) (f_len T) PySem.boot_len (pa_cons (pe_ix (ix_tupK K rfl) (pv 0) pe_int (fun _ _ => rfl)) pa_nil)))
      (pss_cons (ps_setLc (i := 2) (own := [("_law_row", 8)]) rfl sc_law_due.nd rfl rfl (sw_true rfl rfl rfl (by decide +kernel)) (pi_listK K rfl (pe_ix (ix_tupK K rfl) (pv 0) pe_int (fun _ _ => rfl))) (blkOk_by (own := [("_law_row", 8)]) (N := N_law_due) (sc := defScope s_law_due) (by decide +kernel)) (fun _ _ _ _ _ => (pg_name (i := 8) sc_law_due.nd rfl (Or.inl rfl))) (fun _ _ _ _ _ => pts_nil) (fun _ _ _ _ _ => (pe_lc (own := [("_law_step", 9)]) rfl sc_law_due.nd (pi_listK K rfl (pv 8)) (blkOk_by (own := [("_law_step", 9)]) (N := N_law_due) (sc := relS { kind := .function, names := [(PySem.Str.ofString ".0", .local), (PySem.Str.ofString "_law_row", .local)], isGenerator := false, isCoroutine := false, more := [] } (defScope s_law_due)) (by decide +kernel)) (fun _ _ _ _ _ => (pg_name (i := 9) sc_law_due.nd rfl (Or.inl rfl))) (fun _ _ _ _ _ => (pts_one (pt_cmp (pc_notN (pv 9))))) (fun _ _ _ _ _ => (pe_ix (ix_tupK K rfl) (pv 9) pe_int (fun _ _ => rfl))))))
      (pss_cons (ps_setLc (i := 4) (own := [("_law_k", 3)]) rfl sc_law_due.nd rfl rfl (sw_true rfl rfl rfl (by decide +kernel)) (pi_range1 (by rfl) (f_range T) (pa_cons (pv 1) pa_nil)) (blkOk_by (own := [("_law_k", 3)]) (N := N_law_due) (sc := defScope s_law_due) (by decide +kernel)) (fun _ _ _ _ _ => (pg_name (i := 3) sc_law_due.nd rfl (Or.inl rfl))) (fun _ _ _ _ _ => pts_nil) (fun _ _ _ _ _ => (pe_lst pa_nil)))
      (pss_cons (ps_for PassesOwn.never rfl (pi_range1 (by rfl) (f_range T) (pa_cons (pv 1) pa_nil)) (pg_name (i := 3) sc_law_due.nd rfl (Or.inl rfl))
      (pss_one (ps_for PassesOwn.never rfl (pi_listK K rfl (pe_ix (ix_listK K rfl) (pv 2) (pv 3) (fun _ _ => rfl))) (pg_name (i := 5) sc_law_due.nd rfl (Or.inl rfl))
      (pss_one (ps_asg (pe_op op_cat (pe_ix (ix_listK K rfl) (pv 4) (pv 5) (fun _ _ => rfl)) (pe_lst (pa_cons (pv 3) pa_nil))) (pg_sub (pv 4) (pv 5) set_list))))))
      (pss_cons (ps_set (i := 6) sc_law_due.nd rfl (Or.inr rfl) (pe_cl (c_law_reached T) hroom (by decide) (by rfl) (pa_cons (pv 2) (pa_cons (pe_lst (pa_cons pe_int pa_nil)) pa_nil))))
      (pss_cons (ps_set (i := 7) sc_law_due.nd rfl (Or.inr rfl) (pe_cl (c_law_reached T) hroom (by decide) (by rfl) (pa_cons (pv 4) (pa_cons (pe_lc (own := [("_law_k", 3)]) rfl sc_law_due.nd (pi_range1 (by rfl) (f_range T) (pa_cons (pv 1) pa_nil)) (blkOk_by (own := [("_law_k", 3)]) (N := N_law_due) (sc := defScope s_law_due) (by decide +kernel)) (fun _ _ _ _ _ => (pg_name (i := 3) sc_law_due.nd rfl (Or.inl rfl))) (fun _ _ _ _ _ => (pts_one (pt_cmp (pc_notN (pe_ix (ix_listK K rfl) (pe_ix (ix_tupK K rfl) (pv 0) pe_int (fun _ _ => rfl)) (pv 3) (fun _ _ => rfl)))))) (fun _ _ _ _ _ => (pv 3))) pa_nil))))
      (pss_one (ps_ret (pe_lc (own := [("_law_k", 3)]) rfl sc_law_due.nd (pi_range1 (by rfl) (f_range T) (pa_cons (pv 1) pa_nil)) (blkOk_by (own := [("_law_k", 3)]) (N := N_law_due) (sc := defScope s_law_due) (by decide +kernel)) (fun _ _ _ _ _ => (pg_name (i := 3) sc_law_due.nd rfl (Or.inl rfl))) (fun _ _ _ _ _ => (pts_one (PW.pt (pw_and (pt_val (pe_ix (ix_listK K rfl) (pv 6) (pv 3) (fun _ _ => rfl))) (pw_and1 (pt_val (pe_ix (ix_listK K rfl) (pv 7) (pv 3) (fun _ _ => rfl)))))))) (fun _ _ _ _ _ => (pv 3))))))))))), ?_⟩
  obtain ⟨a, m, f, mvs, fvs, rfl, ha, hm, rm, hf, rf⟩ := hv.pt_inv
  have w0 : Wd .no G H := ⟨hG, trivial⟩
  have n1 := ok.one
  have n64 := ok.most
  have nf := ok.fins
  have lm := len_of rm
  have lf := len_of rf
  have rowLen : ∀ {i : Nat} {row : List Mv}, p.mv[i]? = some row → row.length ≤ 4 := fun h => by
    rw [(ok.rows _ (List.mem_of_getElem? h)).1]
    exact ok.ard.most
  refine ⟨_, rfl, a, _, _, _, rfl, rfl, SqT.of (hG _ _ ha), rfl, m, mvs, rfl, .inl (SqL.of (hG _ _ hm)), ?_⟩
  refine ⟨_, rfl, a, _, _, _, rfl, rfl, SqT.of (hG _ _ ha), rfl, m, rfl, ⟨_, SqL.of (hG _ _ hm)⟩, fun A hA => lc_it (walk_list (xs := mvs)) (fun i H' => ∃ (G' : Hp) (ws : List V), Own .no G H [(A, ws, ((p.mv.take i).map aims).map dNs)] G' H' ∧ Same G G') ?_ ?_ ?_ ?_⟩
  · exact ⟨G, [], (Own.start w0).newL hA .nil, Same.refl G⟩
  · rintro i H' _ ⟨G', ws, h, s⟩
    exact SqL.of (h.hs.g (s _ _ hm))
  · rintro i x H2 H3 hi ⟨G', ws, h, s⟩ ⟨rfl, hx⟩
    obtain ⟨row, hrow, rrow⟩ := rm.mapAt hx
    obtain ⟨ra, rvs, rfl, hra, rr⟩ := Rep.lst_inv (ds := row.map dMv) rrow
    have l4 := rowLen hrow
    have lr := len_of rr
    have hra2 := s _ _ hra
    refine ⟨rfl, _, rfl, ra, rfl, ⟨_, SqL.of (h.hs.g hra2)⟩, fun B hB => lc_it (walk_list (xs := rvs)) (fun j H' => Own .no G H [(B, (aims (row.take j)).map vN, (aims (row.take j)).map dN), (A, ws, ((p.mv.take i).map aims).map dNs)] G' H') ?_ ?_ ?_ ?_⟩
    · exact h.newL hB .nil
    · intro j H' _ oa
      exact SqL.of (oa.hs.g hra2)
    · rintro j x H4 H5 hj oa ⟨rfl, hx⟩
      obtain ⟨mq, hq, rq⟩ := rr.mapAt hx
      have sn := aims_snoc hq
      refine ⟨rfl, _, rfl, _, rfl, ?_⟩
      rcases rq.mv_inv with ⟨rfl, rfl⟩ | ⟨q, y, t, rfl, rfl, hqa⟩
      · refine ifF (notF (dT rfl)) ?_
        rw [sn]
        show Own _ _ _ [(B, (aims (row.take j) ++ []).map vN, (aims (row.take j) ++ []).map dN), _] _ _
        rw [List.append_nil]
        exact oa
      · refine ifT (notT (dF (by intro e; cases e))) ⟨_, rfl, q, _, _, _, rfl, rfl, SqT.of (oa.hs.g (s _ _ hqa)), rfl, (aims (row.take j)).map vN, oa.at_ List.mem_cons_self, ?_, ?_⟩
        · rw [List.length_map]
          have := aims_len (row.take j)
          have := List.length_take_le' j row
          exact small_lt (by omega)
        · rw [sn]
          have h2 := oa.putE (A := []) (u := (aims (row.take j)).map vN ++ [vN t]) (Reps.nats (aims (row.take j) ++ [t])) (by rw [List.map_append]; rfl)
          exact h2
    · intro H4 oa
      rw [lr, List.take_length] at oa
      have lw : ws.length = (((p.mv.take i).map aims).map dNs).length := (h.rep (A, ws, _) List.mem_cons_self).length
      obtain ⟨ob, rb⟩ := oa.fin
      refine ⟨ws, ob.at_ (x := (A, ws, ((p.mv.take i).map aims).map dNs)) List.mem_cons_self, ?_, upd G' B (.lst ((aims row).map vN)), ws ++ [V.ref B], ?_, s.trans (same_new (oa.hs.m B (.lst ((aims row).map vN)) (ofL_mem (x := (B, (aims row).map vN, (aims row).map dN)) oa.nd List.mem_cons_self)).2.1)⟩
      · rw [lw, List.length_map, List.length_map]
        have := List.length_take_le' i p.mv
        exact small_lt (by omega)
      · have h2 := ob.app (A := []) (d := dNs (aims row)) rb
        rw [take_snoc hrow, List.map_append, List.map_append]
        exact h2
  · rintro H1 ⟨G', aws, oa0, s⟩
    rw [lm, List.take_length] at oa0
    have hm1 := s _ _ hm
    have raw0 : Reps G' aws ((p.mv.map aims).map dNs) := oa0.rep (A, aws, _) List.mem_cons_self
    obtain ⟨o1, rA⟩ := oa0.fin
    have sA : Same G' (upd G' A (.lst aws)) := same_new (oa0.hs.m A (.lst aws) (ofL_mem (x := (A, aws, (p.mv.map aims).map dNs)) oa0.nd List.mem_cons_self)).2.1
    have hA1 : upd G' A (.lst aws) A = some (.lst aws) := upd_same
    have raw := raw0.mono sA
    have sG1 := s.trans sA
    generalize upd G' A (.lst aws) = G1 at o1 hA1 raw sG1
    clear rA sA raw0 oa0 hm1 s
    have law : aws.length = p.mv.length := by
      have := len_of raw
      rwa [List.length_map] at this
    refine ⟨_, rfl, mvs.length, rfl, by omega, by omega, fun Bk hBk => lc_it (walk_range (lo := 0) (n := (mvs.length : Int).toNat)) (fun i H' => ∃ (G' : Hp) (ws : List V), Own .no G H [(Bk, ws, (List.replicate i ([] : List Nat)).map dNs)] G' H' ∧ Same G1 G') ?_ (fun _ _ _ _ => trivial) ?_ ?_⟩
    · exact ⟨G1, [], o1.newL hBk .nil, Same.refl G1⟩
    · rintro i x H2 H3 hi ⟨G', ws, h, s⟩ ⟨rfl, rfl⟩
      refine ⟨rfl, Nat.zero_le _, fun q hq => ?_⟩
      have h2 := h.newG (o := .lst []) hq
      have lw : ws.length = ((List.replicate i ([] : List Nat)).map dNs).length := (h.rep (Bk, ws, _) List.mem_cons_self).length
      rw [List.length_map, List.length_replicate] at lw
      refine ⟨ws, h2.at_ (x := (Bk, ws, (List.replicate i ([] : List Nat)).map dNs)) List.mem_cons_self, small_lt (by omega), upd G' q (.lst []), ws ++ [V.ref q], ?_, s.trans (same_new (h.hs.fG hq))⟩
      have h3 := h2.app (A := []) (d := dNs []) (v := .ref q) (.lst upd_same .nil)
      rw [List.replicate_succ', List.map_append]
      exact h3
    · rintro H2 ⟨G2, bws, o2, s2⟩
      rw [show (mvs.length : Int).toNat = p.mv.length by omega] at o2
      refine ⟨_, rfl, mvs.length, rfl, by omega, by omega, for_it (walk_range (lo := 0) (n := (mvs.length : Int).toNat)) (fun i σ H' => ∃ (G' : Hp) (ws : List V) (brows : List (List Nat)) (v3 v5 v6 v7 v8 v9 : Option V), σ = [some (.ref a), some (.int mvs.length), some (.ref A), v3, some (.ref Bk), v5, v6, v7, v8, v9] ∧
        Own .no G H [(Bk, ws, brows.map dNs)] G' H' ∧ Same G1 G' ∧ brows.length = p.mv.length ∧ (∀ x y, In2 brows x y ↔ (y < i ∧ Goes p.mv y x)) ∧ ∀ r ∈ brows, r.length ≤ 4 * i) ?_ (fun _ _ _ _ _ => trivial) ?_ ?_⟩
      · refine ⟨G2, bws, _, _, _, _, _, _, _, rfl, o2, s2, by rw [List.length_replicate], fun x y => ⟨fun ⟨row, e, my⟩ => ?_, fun z => absurd z.1 (Nat.not_lt_zero y)⟩, fun r mr => ?_⟩
        · rw [(List.mem_replicate.mp (List.mem_of_getElem? e)).2] at my
          cases my
        · rw [(List.mem_replicate.mp mr).2]
          exact Nat.zero_le _
      · clear o2 s2
        rintro i x σ H3 H4 hi ⟨G3, ws, brows, v3, v5, v6, v7, v8, v9, rfl, o3, s3, lb, mb, bb⟩ ⟨rfl, rfl⟩
        have hi2 : i < p.mv.length := by omega
        obtain ⟨row, hrow⟩ := get_lt hi2
        have l4 := rowLen hrow
        have al := aims_len row
        obtain ⟨rv, hrv, rrv⟩ := raw.mapOf (f := dNs) (x := aims row) (i := i) (by rw [List.getElem?_map, hrow]; rfl)
        obtain ⟨ra, rfl, hra⟩ := rrv.nats_inv
        refine ⟨_, rfl, _, rfl, A, _, _, _, rfl, rfl, SqL.of (o3.hs.g (s3 _ _ hA1)), atI_int (x := .ref ra) (by omega) (by rw [show ((0 : Int) + (i : Nat)).toNat = i by omega]; exact hrv), ra, rfl, ⟨_, SqL.of (o3.hs.g (s3 _ _ hra))⟩, for_it (walk_list (xs := (aims row).map vN)) (fun j σ H' => ∃ (G' : Hp) (ws : List V) (brows : List (List Nat)) (v5 v6 v7 v8 v9 : Option V), σ = [some (.ref a), some (.int mvs.length), some (.ref A), some (.int (0 + (i : Nat))), some (.ref Bk), v5, v6, v7, v8, v9] ∧
          Own .no G H [(Bk, ws, brows.map dNs)] G' H' ∧ Same G1 G' ∧ brows.length = p.mv.length ∧ (∀ x y, In2 brows x y ↔ ((y < i ∧ Goes p.mv y x) ∨ (y = i ∧ x ∈ (aims row).take j))) ∧ ∀ r ∈ brows, r.length ≤ 4 * i + j) ?_ ?_ ?_ ?_⟩
        · exact ⟨G3, ws, brows, _, _, _, _, _, rfl, o3, s3, lb, fun x y => (mb x y).trans ⟨.inl, fun z => z.elim id fun z => by have := z.2; simp at this⟩, fun r mr => bb r mr⟩
        · rintro j σ H' _ ⟨G', ws, brows, _, _, _, _, _, _, oa, sa, _⟩
          exact SqL.of (oa.hs.g (sa _ _ hra))
        · clear o3 s3 lb mb bb
          rintro j xv σ Ha Hb hj ⟨G4, ws, brows, v5, v6, v7, v8, v9, rfl, oa, sa, lb, mb, bb⟩ ⟨rfl, hxv⟩
          rw [List.getElem?_map] at hxv
          obtain ⟨t, ht⟩ := get_lt (xs := aims row) (i := j) (by rw [List.length_map] at hj; exact hj)
          rw [ht] at hxv
          cases hxv
          obtain ⟨y, my⟩ := mem_aims.mp (List.mem_of_getElem? ht)
          have go : Goes p.mv i t := ⟨row, y, hrow, my⟩
          have lt := (goes_lt ok go).2
          obtain ⟨b, hb⟩ := get_lt (xs := brows) (i := t) (by omega)
          have lbb := bb b (List.mem_of_getElem? hb)
          have rws : Reps G4 ws (brows.map dNs) := oa.rep (Bk, ws, _) List.mem_cons_self
          obtain ⟨bv, hbv, rbv⟩ := rws.mapOf hb
          obtain ⟨ba, rfl, hba⟩ := rbv.nats_inv
          have lws := len_of rws
          refine ⟨_, rfl, _, rfl, Bk, _, _, _, rfl, rfl, SqL.of (oa.at_ List.mem_cons_self), atI_nat hbv, _, rfl, by show 1 ≤ sizeLine; decide, fun q hq => ?_⟩
          have ob := oa.newG (o := .lst [V.int (0 + (i : Nat))]) hq
          have sq : Same G4 (upd G4 q (.lst [V.int (0 + (i : Nat))])) := same_new (oa.hs.fG hq)
          refine ⟨ba, q, _, _, rfl, rfl, ob.hs.g (sq _ _ hba), upd_same, by rw [List.length_map]; exact small_sz (by have := lt_get ht; show _ + 1 ≤ _; omega), fun q2 hq2 => ?_⟩
          have oc := ob.newG (o := .lst (b.map vN ++ [V.int (0 + (i : Nat))])) hq2
          have sq2 : Same (upd G4 q (.lst [V.int (0 + (i : Nat))])) (upd (upd G4 q (.lst [V.int (0 + (i : Nat))])) q2 (.lst (b.map vN ++ [V.int (0 + (i : Nat))]))) := same_new (ob.hs.fG hq2)
          refine ⟨_, rfl, _, rfl, Bk, _, _, t, rfl, rfl, oc.at_ (x := (Bk, ws, brows.map dNs)) List.mem_cons_self, ixN_nat (show t < ws.length by omega), ?_⟩
          have od := oc.setAt (A := []) t (v := .ref q2) (d := dNs (b ++ [i])) (by
            have e1 : b.map vN ++ [V.int (0 + (i : Nat))] = (b ++ [i]).map vN := by rw [List.map_append, Int.zero_add]; rfl
            refine .lst (vs := (b ++ [i]).map vN) ?_ (Reps.nats _)
            rw [upd_same, e1])
          rw [← List.map_set] at od
          refine ⟨_, ws.set t (.ref q2), brows.set t (b ++ [i]), _, _, _, _, _, rfl, od, sa.trans (sq.trans sq2), by rw [List.length_set]; exact lb, fun x y => ?_, fun r mr => ?_⟩
          · rw [in2_set hb, mb, take_snoc ht]
            constructor
            · rintro ((z | ⟨z1, z2⟩) | ⟨z1, z2⟩)
              · exact .inl z
              · exact .inr ⟨z1, List.mem_append_left _ z2⟩
              · exact .inr ⟨z2, List.mem_append_right _ (by rw [z1]; exact List.mem_singleton.mpr rfl)⟩
            · rintro (z | ⟨z1, z2⟩)
              · exact .inl (.inl z)
              · rcases List.mem_append.mp z2 with z2 | z2
                · exact .inl (.inr ⟨z1, z2⟩)
                · exact .inr ⟨List.mem_singleton.mp z2, z1⟩
          · rcases List.mem_or_eq_of_mem_set mr with z | z
            · have := bb r z
              omega
            · rw [z, List.length_append]
              show _ + 1 ≤ _
              omega
        · rintro σ Ha ⟨G4, ws, brows, v5, v6, v7, v8, v9, rfl, oa, sa, lb, mb, bb⟩
          refine ⟨G4, ws, brows, _, _, _, _, _, _, rfl, oa, sa, lb, fun x y => ?_, fun r mr => ?_⟩
          · rw [mb, List.length_map, List.take_length]
            constructor
            · rintro (⟨z1, z2⟩ | ⟨z1, z2⟩)
              · exact ⟨by omega, z2⟩
              · obtain ⟨yy, my⟩ := mem_aims.mp z2
                rw [z1]
                exact ⟨Nat.lt_succ_self i, row, yy, hrow, my⟩
            · rintro ⟨z1, z2⟩
              by_cases e : y = i
              · refine .inr ⟨e, ?_⟩
                obtain ⟨row', yy, e1, e2⟩ := z2
                rw [e, hrow] at e1
                cases e1
                exact mem_aims.mpr ⟨yy, e2⟩
              · exact .inl ⟨by omega, z2⟩
          · have := bb r mr
            rw [List.length_map] at this
            omega
      · rintro σ H3 ⟨G3, bws, brows, v3, v5, v6, v7, v8, v9, rfl, o3, s3, lb, mb, bb⟩
        have mb2 : ∀ x y, In2 brows x y ↔ Goes p.mv y x := fun x y => by
          rw [mb]
          exact ⟨fun z => z.2, fun z => ⟨by have := (goes_lt ok z).1; omega, z⟩⟩
        have rB0 : Reps G3 bws (brows.map dNs) := o3.rep (Bk, bws, _) List.mem_cons_self
        obtain ⟨o4, _⟩ := o3.fin
        have sB : Same G3 (upd G3 Bk (.lst bws)) := same_new (o3.hs.m Bk (.lst bws) (ofL_mem (x := (Bk, bws, brows.map dNs)) o3.nd List.mem_cons_self)).2.1
        have hB4 : upd G3 Bk (.lst bws) Bk = some (.lst bws) := upd_same
        have rB := rB0.mono sB
        have s4 := s3.trans sB
        generalize upd G3 Bk (.lst bws) = G4 at o4 hB4 rB s4
        clear rB0 sB o3 s3 mb bb o2 s2
        -- from the start
        refine ⟨_, rfl, by show 1 ≤ sizeLine; decide, fun S0 hS0 => ?_⟩
        have o5 := o4.newG (o := .lst [V.int 0]) hS0
        have s5 : Same G4 (upd G4 S0 (.lst [V.int 0])) := same_new (o4.hs.fG hS0)
        have hS5 : upd G4 S0 (.lst [V.int 0]) S0 = some (.lst ([0].map vN)) := upd_same
        generalize hG5 : upd G4 S0 (.lst [V.int 0]) = G5 at o5 s5 hS5
        clear hG5
        refine ⟨G5, A, S0, aws, p.mv.map aims, [0], rfl, o5.hs.wd.sub, s5 _ _ (s4 _ _ hA1), raw.mono (s4.trans s5), hS5, by rw [List.length_map]; exact n64, by simp, fun k mk => by rw [List.length_map, List.mem_singleton.mp mk]; omega, fun i j z => by rw [List.length_map]; exact (goes_lt ok (in2_aims.mp z)).2, fun H6 Fa fs a6 lfs tfs hFa => ?_⟩
        rw [List.length_map] at lfs
        have tfs2 : Tells fs (Rea p.mv) := tfs.iff (Rch.iff (fun k => List.mem_singleton) fun i j => in2_aims)
        have o6 := o5.call0 a6
        have s6 : Same G4 (grow G5 (upd H3 S0 (.lst [V.int 0])) H6) := s5.trans grow_same
        generalize grow G5 (upd H3 S0 (.lst [V.int 0])) H6 = G6 at o6 hFa s6
        -- to the ends
        have s46 := s4.trans s6
        refine ⟨_, rfl, _, rfl, mvs.length, rfl, by omega, by omega, fun E hE => lc_it (walk_range (lo := 0) (n := (mvs.length : Int).toNat)) (fun i H' => ∃ ks : List Nat, Own .no G H [(E, ks.map vN, ks.map dN)] G6 H' ∧ ks.Nodup ∧ (∀ k, k ∈ ks ↔ k < i ∧ Ends p.fi k) ∧ ks.length ≤ i) ?_ (fun _ _ _ _ => trivial) ?_ ?_⟩
        · exact ⟨[], o6.newL (vs := []) (ds := []) hE .nil, .nil, fun k => ⟨fun z => (by cases z), fun z => absurd z.1 (Nat.not_lt_zero k)⟩, Nat.le_refl 0⟩
        · rintro i x Ha Hb hi ⟨ks, oa, nd, mk, lk⟩ ⟨rfl, rfl⟩
          obtain ⟨fq, hfq⟩ := get_lt (xs := p.fi) (i := i) (by omega)
          obtain ⟨fv, hfv, rfv⟩ := rf.mapOf hfq
          have sa2 := sG1.trans s46
          refine ⟨rfl, _, rfl, a, _, _, _, rfl, rfl, SqT.of (oa.hs.g (sa2 _ _ ha)), rfl, _, rfl, f, _, _, _, rfl, rfl, SqL.of (oa.hs.g (sa2 _ _ hf)), atI_int (x := fv) (by omega) (by rw [show ((0 : Int) + (i : Nat)).toNat = i by omega]; exact hfv), _, rfl, ?_⟩
          rcases rfv.fin_inv with ⟨rfl, rfl⟩ | ⟨y, rfl, rfl⟩
          · refine ifF (notF (dT rfl)) ⟨ks, oa, nd, fun k => (mk k).trans ⟨fun z => ⟨by omega, z.2⟩, fun z => ⟨?_, z.2⟩⟩, by omega⟩
            obtain ⟨z1, y, z2⟩ := z
            have ne : k ≠ i := fun e => by rw [e, hfq] at z2; cases z2
            omega
          · refine ifT (notT (dF (by intro e; cases e))) ⟨_, rfl, ks.map vN, oa.at_ List.mem_cons_self, by rw [List.length_map]; exact small_lt (by omega), ks ++ [i], ?_, ?_, fun k => ?_, by rw [List.length_append]; exact Nat.succ_le_succ lk⟩
            · exact oa.putE (A := []) (Reps.nats (ks ++ [i])) (by rw [List.map_append]; show _ ++ [V.int (0 + (i : Nat))] = _ ++ [V.int (i : Nat)]; rw [Int.zero_add])
            · exact List.nodup_append.mpr ⟨nd, List.nodup_cons.mpr ⟨List.not_mem_nil, .nil⟩, fun b mb c mc => by rw [List.mem_singleton.mp mc]; intro e; have := ((mk b).mp mb).1; omega⟩
            · rw [List.mem_append, mk, List.mem_singleton]
              constructor
              · rintro (z | rfl)
                · exact ⟨by omega, z.2⟩
                · exact ⟨Nat.lt_succ_self _, y, hfq⟩
              · rintro ⟨z1, z2⟩
                by_cases e : k = i
                · exact .inr e
                · exact .inl ⟨by omega, z2⟩
        · rintro Ha ⟨ks, oa, nd, mk, lk⟩
          rw [show (mvs.length : Int).toNat = p.mv.length by omega] at mk lk
          obtain ⟨o7, _⟩ := oa.fin
          have s7 : Same G6 (upd G6 E (.lst (ks.map vN))) := same_new (oa.hs.m E (.lst (ks.map vN)) (ofL_mem (x := (E, ks.map vN, ks.map dN)) oa.nd List.mem_cons_self)).2.1
          have hE7 : upd G6 E (.lst (ks.map vN)) E = some (.lst (ks.map vN)) := upd_same
          generalize upd G6 E (.lst (ks.map vN)) = G7 at o7 s7 hE7
          have hFa7 := s7 _ _ hFa
          refine ⟨G7, Bk, E, bws, brows, ks, rfl, o7.hs.wd.sub, s7 _ _ (s6 _ _ hB4), rB.mono (s6.trans s7), hE7, by omega, nd, fun k z => by rw [lb]; exact ((mk k).mp z).1, fun i j z => by rw [lb]; exact (goes_lt ok ((mb2 i j).mp z)).1, fun H8 La es a8 les tes hLa => ?_⟩
          have tes2 : Tells es (Lea p.mv p.fi) := tes.iff (Rch.iff (fun k => (mk k).trans ⟨fun z => z.2, fun z => ⟨by obtain ⟨y, hy⟩ := z; have := lt_get hy; omega, z⟩⟩) fun i j => mb2 i j)
          rw [lb] at les
          have o8 := o7.call0 a8
          have hFa8 := grow_old (H := Ha) (H' := H8) hFa7
          generalize grow G7 Ha H8 = G8 at o8 hLa hFa8
          refine ⟨_, rfl, mvs.length, rfl, by omega, by omega, fun R hR => lc_it (walk_range (lo := 0) (n := (mvs.length : Int).toNat)) (fun i H' => Own .no G H [(R, (usefulTo p i).map vN, (usefulTo p i).map dN)] G8 H') ?_ (fun _ _ _ _ => trivial) ?_ ?_⟩
          · exact o8.newL (vs := []) (ds := []) hR .nil
          · rintro i xv Hb Hc hi ob ⟨rfl, rfl⟩
            have hi2 : i < p.mv.length := by omega
            obtain ⟨b, hb⟩ := get_lt (xs := fs) (i := i) (by omega)
            obtain ⟨c, hc⟩ := get_lt (xs := es) (i := i) (by omega)
            have sn := usefulTo_snoc p tfs2 tes2 hb hc
            refine ⟨rfl, _, rfl, _, rfl, Fa, _, _, V.bl b, rfl, rfl, SqL.of (ob.hs.g hFa8), atI_int (by omega) (by rw [List.getElem?_map, show ((0 : Int) + (i : Nat)).toNat = i by omega, hb]; rfl), _, rfl, ?_⟩
            have no : (b && c) = false → Own .no G H [(R, (usefulTo p (i + 1)).map vN, (usefulTo p (i + 1)).map dN)] G8 Hc := fun z => by
              rw [sn, if_neg (by rw [z]; decide), List.append_nil]
              exact ob
            cases b with
            | false => exact ifF rfl (ifF rfl (no rfl))
            | true =>
              refine ifT rfl ⟨_, rfl, _, rfl, La, _, _, V.bl c, rfl, rfl, SqL.of (ob.hs.g hLa), atI_int (by omega) (by rw [List.getElem?_map, show ((0 : Int) + (i : Nat)).toNat = i by omega, hc]; rfl), _, rfl, ?_⟩
              cases c with
              | false => exact ifF rfl (no rfl)
              | true =>
                refine ifT rfl ⟨_, rfl, (usefulTo p i).map vN, ob.at_ List.mem_cons_self, by rw [List.length_map]; exact small_lt (Nat.le_trans (usefulTo_len p i) (by omega)), ?_⟩
                rw [sn, if_pos (show (true && true) = true from rfl)]
                have h := ob.putE (A := []) (u := (usefulTo p i).map vN ++ [V.int (0 + (i : Nat))]) (Reps.nats (usefulTo p i ++ [i])) (by rw [List.map_append]; show _ = _ ++ [V.int (i : Nat)]; rw [Int.zero_add])
                exact h
          · rintro Hb ob
            rw [show (mvs.length : Int).toNat = p.mv.length by omega] at ob
            obtain ⟨oc, rc⟩ := ob.fin
            exact k Hb (.ref R) (oc.aft w0) (oc.out rc)
end

end Lag

namespace Lag
open PySem PySem.Spec PyProof.Rows L2
/-! ### the law -/
section
variable {P : Program} {w : World} {K : PySem.W.Frag} {mg : Str → Option Value} {base : Heap}
theorem fit_use (p : Pt) (h : p.mv.length ≤ 64) : Fit 7 (dUse p) := by
  have h2 : Fit 1 (.lst ((useful p).map dN)) := fit_nats (by have := usefulTo_len p p.mv.length; show (usefulTo p p.mv.length).length ≤ _; omega)
  exact h2.up (by decide)
def sp_law (K : PySem.W.Frag) : Sp := fun vs H Q _ => ∃ (a : Addr) (ns : List Int), vs = [.ref a] ∧ SqL K H a (ns.map V.int) ∧ ns.length ≤ 63 ∧ ∀ H' : Hp, Q (.bl true) H'
abbrev s_law : Stmt := (top 62)
abbrev N_law : List Str := ["_law_script", "_law_store_here", "_law_read", "_law_write", "_law_one", "_law_two", "_law_moves", "_law_finals", "_law_first", "_law_second", "_law_before", "_law_told", "_law_k", "_law_row", "_law_letter"]
theorem sc_law : FnScope ["_law_script", "_law_store_here", "_law_read", "_law_write", "_law_one", "_law_two", "_law_moves", "_law_finals", "_law_first", "_law_second", "_law_before", "_law_told", "_law_k", "_law_row", "_law_letter"] ["_law_script"] (defScope s_law) := ⟨rfl, rfl, rfl, by decide +kernel, rfl, by decide +kernel, by decide +kernel⟩
theorem ok_law (T : Top K mg) {fd : FuncData} (D : FunD K "law" "law" (defArgs (top 62)) (defBody (top 62)) (defScope (top 62)) [] [] (He.ga K "law") fd) : FnOk P w K mg base CX0 (11) (He.ga K "law") fd ["_law_script"] (sp_law K) := by
  refine okf_of D sc_law (fun vs H Q E h => ?_) (fun cdv A outer s H vs Q E hroom h => ?_)
  · obtain ⟨sc, ns, rfl, hS, hl, k⟩ := h
    rfl
  obtain ⟨sc, ns, rfl, hS, hl, k⟩ := h
  refine ⟨_, (pss_cons (ps_set (i := 1) sc_law.nd rfl (Or.inl rfl) (pe_cl (c_law_store T) hroom (by decide) (by rfl) (pa_cons (pv 0) pa_nil)))
      (pss_cons (ps_set (i := 2) sc_law.nd rfl (Or.inl rfl) (pe_cl (c_law_letters T) hroom (by decide) (by rfl) (pa_cons (pv 1) (pa_cons pe_int pa_nil))))
      (pss_cons (ps_set (i := 3) sc_law.nd rfl (Or.inl rfl) (pe_cl (c_law_letters T) hroom (by decide) (by rfl) (pa_cons (pv 1) (pa_cons pe_int pa_nil))))
      (pss_cons (ps_set (i := 4) sc_law.nd rfl (Or.inl rfl) (pe_cl (c_law_drawn T) hroom (by decide) (by rfl) (pa_cons (pv 1) (pa_cons (pv 2) (pa_cons (pv 3) pa_nil)))))
      (pss_cons (ps_set (i := 5) sc_law.nd rfl (Or.inl rfl) (pe_cl (c_law_near_reader T) hroom (by decide) (by rfl) (pa_cons (pv 1) (pa_cons (pv 4) pa_nil))))
      (pss_mid (ps_if (pt_cmpR op_eq (pe_cl (c_law_take T) hroom (by decide) (by rfl) (pa_cons (pv 1) (pa_cons pe_int pa_nil))) pe_int (nomark _)) (pss_one (ps_set (i := 5) sc_law.nd rfl (Or.inl rfl) (pe_cl (c_law_drawn T) hroom (by decide) (by rfl) (pa_cons (pv 1) (pa_cons (pv 2) (pa_cons (pv 3) pa_nil)))))) pss_nil)
      (pss_cons (ps_setLc (i := 6) (own := [("_law_row", 13)]) rfl sc_law.nd rfl rfl (sw_true rfl rfl rfl (by decide +kernel)) (pi_listK K rfl (pe_ix (ix_tupK K rfl) (pv 4) pe_int (fun _ _ => rfl))) (blkOk_by (own := [("_law_row", 13)]) (N := N_law) (sc := defScope s_law) (by decide +kernel)) (fun _ _ _ _ _ => (pg_name (i := 13) sc_law.nd rfl (Or.inl rfl))) (fun _ _ _ _ _ => pts_nil) (fun _ _ _ _ _ => (pe_callTy (call_list_ofK K rfl) (by rfl) (f_list T) (by decide +kernel) (pa_cons (pv 13) pa_nil))))
      (pss_cons (ps_set (i := 7) sc_law.nd rfl (Or.inl rfl) (pe_callTy (call_list_ofK K rfl) (by rfl) (f_list T) (by decide +kernel) (pa_cons (pe_ix (ix_tupK K rfl) (pv 4) pe_int (fun _ _ => rfl)) pa_nil)))
      (pss_cons (ps_set (i := 8) sc_law.nd rfl (Or.inl rfl) (pe_mkc (m_Reader T) hroom (by decide) (by rfl) (pa_cons (pe_ix (ix_tupK K rfl) (pv 4) pe_int (fun _ _ => rfl)) (pa_cons (pe_ix (ix_tupK K rfl) (pv 4) pe_int (fun _ _ => rfl)) (pa_cons (pe_ix (ix_tupK K rfl) (pv 4) pe_int (fun _ _ => rfl)) (pa_cons (pv 6) (pa_cons (pv 7) pa_nil)))))))
      (pss_cons (ps_set (i := 9) sc_law.nd rfl (Or.inl rfl) (pe_cl (c_law_reader_of T) hroom (by decide) (by rfl) (pa_cons (pv 5) pa_nil)))
      (pss_cons (ps_set (i := 10) sc_law.nd rfl (Or.inl rfl) (pe_cl (c_law_copy T) hroom (by decide) (by rfl) (pa_cons (pe_cl (c_law_reader_parts_of T) hroom (by decide) (by rfl) (pa_cons (pv 8) pa_nil)) pa_nil)))
      (pss_cons (ps_set (i := 11) sc_law.nd rfl (Or.inl rfl) (pe_cl (c_useful_reader_states T) hroom (by decide) (by rfl) (pa_cons (pv 8) pa_nil)))
      (pss_cons (ps_if (PW.pt (pw_or (pt_not (pt_val (pe_cl (c_law_same T) hroom (by decide) (by rfl) (pa_cons (pv 11) (pa_cons (pe_cl (c_law_due T) hroom (by decide) (by rfl) (pa_cons (pv 4) pa_nil)) pa_nil))))) (pw_or1 (pt_not (pt_val (pe_cl (c_law_same T) hroom (by decide) (by rfl) (pa_cons (pe_cl (c_useful_reader_states T) hroom (by decide) (by rfl) (pa_cons (pv 9) pa_nil)) (pa_cons (pe_cl (c_law_due T) hroom (by decide) (by rfl) (pa_cons (pv 5) pa_nil)) pa_nil)))))))) (pss_one (ps_ret pe_bl)) pss_nil)
      (pss_cons (ps_expr (pe_cl (c_law_wreck T) hroom (by decide) (by rfl) (pa_cons (pv 11) pa_nil)))
      (pss_cons (ps_for PassesOwn.never rfl (pi_range1 (by rfl) (f_range T) (pa_cons (pe_callB (call_len_seqK K rfl) (by rfl) (f_len T) PySem.boot_len (pa_cons (pv 7) pa_nil)) pa_nil)) (pg_name (i := 12) sc_law.nd rfl (Or.inl rfl))
      (pss_cons (ps_asg pe_non (pg_sub (pv 7) (pv 12) set_list))
      (pss_cons (ps_asg pe_non (pg_sub (pe_ix (ix_listK K rfl) (pv 6) (pv 12) (fun _ _ => rfl)) pe_int set_list))
      (pss_one (ps_asg (pe_lc (own := [("_law_letter", 14)]) rfl sc_law.nd (pi_str (pv 2)) (blkOk_by (own := [("_law_letter", 14)]) (N := N_law) (sc := defScope s_law) (by decide +kernel)) (fun _ _ _ _ _ => (pg_name (i := 14) sc_law.nd rfl (Or.inl rfl))) (fun _ _ _ _ _ => pts_nil) (fun _ _ _ _ _ => pe_non)) (pg_sub (pv 6) (pv 12) set_list))))))
      (pss_cons (ps_if (pt_not (pt_val (pe_cl (c_law_same T) hroom (by decide) (by rfl) (pa_cons (pe_cl (c_useful_reader_states T) hroom (by decide) (by rfl) (pa_cons (pv 8) pa_nil)) (pa_cons (pe_cl (c_law_due T) hroom (by decide) (by rfl) (pa_cons (pv 4) pa_nil)) pa_nil))))) (pss_one (ps_ret pe_bl)) pss_nil)
      (pss_cons (ps_if (pt_not (pt_val (pe_cl (c_law_same T) hroom (by decide) (by rfl) (pa_cons (pe_cl (c_useful_reader_states T) hroom (by decide) (by rfl) (pa_cons (pv 9) pa_nil)) (pa_cons (pe_cl (c_law_due T) hroom (by decide) (by rfl) (pa_cons (pv 5) pa_nil)) pa_nil))))) (pss_one (ps_ret pe_bl)) pss_nil)
      (pss_cons (ps_if (pt_not (pt_val (pe_cl (c_law_same T) hroom (by decide) (by rfl) (pa_cons (pe_cl (c_law_reader_parts_of T) hroom (by decide) (by rfl) (pa_cons (pv 9) pa_nil)) (pa_cons (pv 5) pa_nil))))) (pss_one (ps_ret pe_bl)) pss_nil)
      (pss_one (ps_ret (pe_and (pe_cl (c_law_same T) hroom (by decide) (by rfl) (pa_cons (pe_cl (c_law_reader_parts_of T) hroom (by decide) (by rfl) (pa_cons (pv 8) pa_nil)) (pa_cons (pv 10) pa_nil))) (pe_one (pe_cl (c_law_same T) hroom (by decide) (by rfl) (pa_cons (pv 10) (pa_cons (pv 4) pa_nil))))))))))))))))))))))))), ?_⟩
  refine ⟨_, rfl, sc, ns, rfl, hS, fun H1 s c e s1 hs0 hc0 hs1 hc1 => ?_⟩
  have ne : c ≠ s := fun q => by rw [q, hs1] at hc1; injection hc1 with h; injection h with h; cases ns <;> simp at h
  have o1 := Own.start (wd_begin hs1 hc1 ne hl)
  generalize hG1 : era H1 s = G1 at o1
  clear hG1
  refine ⟨_, rfl, G1, s, c, ns, 3, rfl, o1.wd, by decide, by decide, fun H2 rd a2 rd3 => ?_⟩
  have hrd := rd3.mono (show 3 ≤ 4 by decide)
  have o2 := o1.call a2
  refine ⟨_, rfl, _, s, c, ns, 2, rfl, o2.wd, by decide, by decide, fun H3 wr a3 wr2 => ?_⟩
  have hwr := wr2.mono (show 2 ≤ 4 by decide)
  have o3 := o2.call a3
  refine ⟨_, rfl, _, rfl, _, rfl, _, s, c, ns, rd, wr, rfl, o3.wd, hrd, hwr, fun H4 one p a4 r4 erd ewr ok3 => ?_⟩
  have o4 := o3.call a4
  generalize grow _ H3 H4 = G4 at o4 r4
  clear o1 o2 o3
  refine ⟨_, rfl, _, rfl, G4, s, c, ns, one, p, 3, rfl, o4.wd, r4, ok3, by decide, by decide, fun H5 two p2 a5 r5 erd2 ewr2 ok4 => ?_⟩
  have o5 := o4.call a5
  have r45 := r4.mono (grow_same (G := G4) (H := H4) (H' := H5))
  generalize grow G4 H4 H5 = G5 at o5 r5 r45
  refine ⟨fun σ' H' => ∃ (G' : Hp) (two : V) (p2 : Pt), σ' = [some (.ref sc), some (.ref s), some (.str rd), some (.str wr), some one, some two, none, none, none, none, none, none, none, none, none] ∧
    Own (.at_ s c ns) G1 H1 [] G' H' ∧ Rep G' one (dPt p) ∧ Rep G' two (dPt p2) ∧ OkPt 400 p2, ?_, ?_⟩
  · clear o4 o5 r4 r45 r5 ok4 a4 a5 erd2 ewr2
    rintro σ' H6 ⟨G6, two, p2, rfl, o6, q1, q2, ok2⟩
    have ok1 := ok3.mono (show 3 ≤ 400 by decide)
    obtain ⟨a, m0, f0, mvs, fvs, rfl, ha, hm, rm, hf, rf⟩ := q1.pt_inv
    have fit1 : Fit 7 (dPt p) := (fit_pt ok1).up (by decide)
    have fit2 : Fit 7 (dPt p2) := (fit_pt ok2).up (by decide)
    have use1 := fit_use p ok1.most
    have use2 := fit_use p2 ok2.most
    have n1 := ok1.one
    have n64 := ok1.most
    have nf := ok1.fins
    have lf := len_of rf
    obtain ⟨m', em, hin⟩ := RowsIn.of (K := K) o6.wd.sub (v := .ref m0) (rows := p.mv) (.lst hm rm)
    cases em
    refine ⟨_, rfl, a, _, _, _, rfl, rfl, SqT.of (o6.hs.g ha), rfl, m0, rfl, ⟨_, SqL.of (o6.hs.g hm)⟩, fun D hD => lc_rowsM o6 hin (Nat.le_trans n64 (by decide)) hD (fun _ => rfl) (fun _ => rfl) fun A H7 o7 lA eA s7 => ?_⟩
    rw [List.append_nil] at o7
    refine ⟨_, rfl, a, _, _, _, rfl, rfl, SqT.of (o7.hs.g ha), rfl, f0, fvs, rfl, .inl (SqL.of (o7.hs.g hf)), fun f hf2 => ?_⟩
    have o8 := o7.newL hf2 rf
    refine ⟨_, rfl, a, _, _, _, rfl, rfl, SqT.of (o8.hs.g ha), rfl, _, rfl, a, _, _, _, rfl, rfl, SqT.of (o8.hs.g ha), rfl, _, rfl, a, _, _, _, rfl, rfl, SqT.of (o8.hs.g ha), rfl, _, rfl, _, rfl, fun x dx hx hdx nx => ?_⟩
    have hrows : RowsIn K G6 (upd H7 f (.lst fvs)) D p.mv := by
      refine ⟨refs A, SqL.of o8.atX, by rw [List.length_map]; exact lA, fun i v e => ?_⟩
      obtain ⟨y, hy⟩ := get_lt (xs := A) (i := i) (by have := lt_get e; rw [List.length_map] at this; exact this)
      rw [List.getElem?_map, hy] at e
      cases e
      obtain ⟨row, e1, e2⟩ := datas_at eA hy
      have my : y ∈ (f, fvs, p.fi.map dFin) :: A := List.mem_cons_of_mem _ (List.mem_of_getElem? hy)
      exact ⟨y.1, y.2.1, row, rfl, e1, SqL.of (o8.at_ my), by rw [← e2]; exact o8.rep y my⟩
    have hfins : FinsIn K G6 (upd H7 f (.lst fvs)) f p.fi := ⟨fvs, SqL.of (o8.at_ (x := (f, fvs, p.fi.map dFin)) List.mem_cons_self), rf⟩
    refine ⟨G6, _, x, dx, D, f, p, rfl, rfl, hx, hdx, nx, o8.hs.wd.sub, hrows, hfins, ok1, fun H9 a9 R9 => ⟨rfl, ?_⟩⟩
    have o9 := o8.call0 a9
    have s9 : Same G6 (grow G6 (upd H7 f (.lst fvs)) H9) := grow_same
    generalize grow G6 (upd H7 f (.lst fvs)) H9 = G9 at o9 R9 s9
    have q1 := q1.mono s9
    have q2 := q2.mono s9
    clear s9 o8 hrows hfins o7 o6
    refine ⟨_, rfl, G9, two, p2, rfl, o9.wd.sub, q2, ok2, fun H10 sec a10 R10 => ?_⟩
    have o10 := o9.call0 a10
    have s10 : Same G9 (grow G9 H9 H10) := grow_same
    generalize grow G9 H9 H10 = G10 at o10 R10 s10
    have q1 := q1.mono s10
    have q2 := q2.mono s10
    have R9 := R9.mono s10
    clear s10 o9
    refine ⟨_, rfl, G10, _, p, rfl, o10.wd.sub, R9, fun H11 pv a11 r11 => ?_⟩
    have o11 := o10.call0 a11
    have s11 : Same G10 (grow G10 H10 H11) := grow_same
    generalize grow G10 H10 H11 = G11 at o11 r11 s11
    refine ⟨G11, pv, dPt p, rfl, o11.wd.sub, r11, fit1, fun H12 bef a12 r12 => ?_⟩
    have o12 := o11.call0 a12
    have s12 : Same G10 (grow G11 H11 H12) := s11.trans grow_same
    generalize grow G11 H11 H12 = G12 at o12 r12 s12
    have q1 := q1.mono s12
    have q2 := q2.mono s12
    have R9 := R9.mono s12
    have R10 := R10.mono s12
    clear s11 s12 o11 o10 r11
    refine ⟨_, rfl, G12, _, p, rfl, o12.wd.sub, R9, fun H13 t a13 ht ht13 => ?_⟩
    have o13 := o12.callL a13 ht ht13 (Reps.nats (useful p))
    have hGt := o12.hs.fG ht
    have s13 : Same G12 (era (grow G12 H12 H13) t) := same_era grow_same hGt
    generalize era (grow G12 H12 H13) t = G13 at o13 s13
    have q1 := q1.mono s13
    have q2 := q2.mono s13
    have R9 := R9.mono s13
    have R10 := R10.mono s13
    have r12 := r12.mono s13
    clear s13 o12
    -- both are told right
    refine ⟨_, rfl, _, rfl, G13, _, p, rfl, o13.wd.sub, q1, ok1, fun H14 u14 a14 r14 => ?_⟩
    have o14 := o13.call0 a14
    have s14 : Same G13 (grow G13 H13 H14) := grow_same
    generalize grow G13 H13 H14 = G14 at o14 r14 s14
    have t14 : H14 t = some (.lst ((useful p).map vN)) := o14.at_ (x := (t, (useful p).map vN, (useful p).map dN)) List.mem_cons_self
    have tG : Same (upd G14 t (.lst ((useful p).map vN))) H14 := fun b u z => by
      by_cases eb : b = t
      · rw [eb, upd_same] at z
        rw [eb, ← z]
        exact t14
      · rw [upd_ne eb] at z
        exact o14.hs.g z
    have gt14 : G14 t = none := (o14.hs.m t (.lst ((useful p).map vN)) (by
      rw [upd_ne (fun z => o14.nD (by rw [← z]; exact List.mem_cons_self))]
      exact ofL_mem (x := (t, (useful p).map vN, (useful p).map dN)) o14.nd List.mem_cons_self)).2.1
    refine ⟨upd G14 t (.lst ((useful p).map vN)), .ref t, u14, dUse p, dUse p, rfl, tG, .lst upd_same (Reps.nats _), r14.mono (same_new gt14), use1, fun b hb => ⟨_, rfl, ifF (notF (hb.mpr rfl)) ?_⟩⟩
    have q1 := q1.mono s14
    have q2 := q2.mono s14
    have R9 := R9.mono s14
    have R10 := R10.mono s14
    have r12 := r12.mono s14
    clear s14 o13 tG
    refine ⟨_, rfl, G14, _, p2, rfl, o14.wd.sub, R10, fun H15 t2 a15 ht2 ht15 => ?_⟩
    have o15 := o14.call0 a15
    have s15 : Same G14 (grow G14 H14 H15) := grow_same
    have g15 : grow G14 H14 H15 t2 = some (.lst ((useful p2).map vN)) := by
      rw [grow_new (o14.hs.fG ht2) ht2]
      exact ht15
    generalize grow G14 H14 H15 = G15 at o15 s15 g15
    refine ⟨_, rfl, G15, two, p2, rfl, o15.wd.sub, q2.mono s15, ok2, fun H16 u16 a16 r16 => ?_⟩
    have o16 := o15.call0 a16
    have s16 : Same G15 (grow G15 H15 H16) := grow_same
    generalize grow G15 H15 H16 = G16 at o16 r16 s16
    refine ⟨G16, .ref t2, u16, dUse p2, dUse p2, rfl, o16.wd.sub, .lst (s16 _ _ g15) (Reps.nats _), r16, use2, fun b hb => ⟨_, rfl, ifF (notF (hb.mpr rfl)) ?_⟩⟩
    have s16 := s15.trans s16
    have q1 := q1.mono s16
    have q2 := q2.mono s16
    have R9 := R9.mono s16
    have R10 := R10.mono s16
    have r12 := r12.mono s16
    clear s16 s15 o15 o14 t14 gt14 g15
    -- the told list is wrecked
    have t16 : H16 t = some (.lst ((useful p).map vN)) := o16.at_ (x := (t, (useful p).map vN, (useful p).map dN)) List.mem_cons_self
    have lu : (useful p).length ≤ 64 := Nat.le_trans (usefulTo_len p p.mv.length) n64
    have one1 : ∀ {b : Addr} {u : HO}, upd nil t (.lst ((useful p).map vN)) b = some u → b = t ∧ u = .lst ((useful p).map vN) := fun {b u} z => by
      by_cases eb : b = t
      · rw [eb, upd_same] at z
        exact ⟨eb, (Option.some.inj z).symm⟩
      · rw [upd_ne eb] at z
        cases z
    refine ⟨_, rfl, upd nil t (.lst ((useful p).map vN)), .ref t, dUse p, [t], rfl, fun b u z => by obtain ⟨e1, e2⟩ := one1 z; rw [e1, e2]; exact t16, .lst upd_same (Reps.nats _), use1, Lsts.lst (ls := []) upd_same (by rw [List.length_map]; omega) (Lstss.ints _), List.nodup_cons.mpr ⟨List.not_mem_nil, .nil⟩, (by show 1 ≤ 100000; decide), fun H17 sv => ?_⟩
    have o17 := o16.give sv
    clear o16 t16 one1 sv
    have lfv : fvs.length = p.mv.length := by omega
    refine ⟨_, rfl, f, fvs, rfl, .inl (SqL.of (o17.at_ (x := (f, fvs, p.fi.map dFin)) List.mem_cons_self)), fvs.length, rfl, by omega, by omega, for_it (walk_range (lo := 0) (n := (fvs.length : Int).toNat)) (fun i σ H' => ∃ (ms fvs2 : List V) (fds : List Lag.D) (B : OwnL) (v12 v13 v14 : Option V), σ = [some (.ref sc), some (.ref s), some (.str rd), some (.str wr), some (.ref a), some two, some (.ref D), some (.ref f), some (.ref x), some sec, some bef, some (.ref t), v12, v13, v14] ∧
      OwnX (.at_ s c ns) G1 H1 D (.lst ms) ((f, fvs2, fds) :: B) G16 H' ∧ ms.length = p.mv.length ∧ fvs2.length = p.mv.length ∧ B.map (·.1) = A.map (·.1) ∧ (∀ y ∈ B, 1 ≤ y.2.1.length) ∧ ∀ j, i ≤ j → ms[j]? = (refs A)[j]?) ?_ (fun _ _ _ _ _ => trivial) ?_ ?_⟩
    · refine ⟨refs A, fvs, p.fi.map dFin, A, _, _, _, rfl, o17, by rw [List.length_map]; exact lA, lfv, rfl, fun y my => ?_, fun j _ => rfl⟩
      obtain ⟨j, hj⟩ := List.mem_iff_getElem?.mp my
      obtain ⟨row, e1, e2⟩ := datas_at eA hj
      have l1 := (o17.rep y (List.mem_cons_of_mem _ my)).length
      rw [e2, List.length_map, (ok1.rows row (List.mem_of_getElem? e1)).1] at l1
      have := ok1.ard.one
      omega
    · rintro i xv σ Ha Hb hi ⟨ms, fvs2, fds, B, v12, v13, v14, rfl, oa, lms, lf2, eB, hB1, hms⟩ ⟨rfl, rfl⟩
      have hi2 : i < p.mv.length := by omega
      obtain ⟨y, hy⟩ := get_lt (xs := B) (i := i) (by have := congrArg List.length eB; rw [List.length_map, List.length_map] at this; omega)
      obtain ⟨l, vs, ds⟩ := y
      have hl1 : 1 ≤ vs.length := hB1 _ (List.mem_of_getElem? hy)
      have hA : (refs A)[i]? = some (.ref l) := by
        have e1 : (A.map (·.1))[i]? = some l := by rw [← eB, List.getElem?_map, hy]; rfl
        have e2 : refs A = (A.map (·.1)).map V.ref := by rw [List.map_map]; rfl
        rw [e2, List.getElem?_map, e1]
        rfl
      have hmi := (hms i (Nat.le_refl i)).trans hA
      refine ⟨_, rfl, _, rfl, f, fvs2, _, i, rfl, rfl, oa.at_ (x := (f, fvs2, fds)) List.mem_cons_self, by rw [Int.zero_add]; exact ixN_nat (by omega), ?_⟩
      have ob := oa.putAt (k := 0) rfl (Reps.set (v := .non) (d := .non) .non i (oa.repAt (k := 0) rfl))
      rw [List.set_cons_zero] at ob
      refine ⟨_, rfl, _, rfl, D, _, _, _, rfl, rfl, SqL.of ob.atX, atI_int (by omega) (by rw [show ((0 : Int) + (i : Nat)).toNat = i by omega]; exact hmi), l, vs, _, 0, rfl, rfl, ob.at_ (x := (l, vs, ds)) (List.mem_cons_of_mem _ (List.mem_of_getElem? hy)), ixN_nat (t := 0) (by omega), ?_⟩
      have oc := ob.putAt (k := i + 1) (l := l) (vs := vs) (ds := ds) (by rw [List.getElem?_cons_succ]; exact hy) (Reps.set (v := .non) (d := .non) .non 0 (ob.repAt (k := i + 1) (by rw [List.getElem?_cons_succ]; exact hy)))
      rw [List.set_cons_succ] at oc
      refine ⟨_, rfl, rd, rfl, fun N hN => lc_it (walk_str (z := rd)) (fun j H' => ∃ (acc : List V) (ads : List Lag.D), OwnX (.at_ s c ns) G1 H1 D (.lst ms) ((N, acc, ads) :: (f, fvs2.set i .non, fds.set i .non) :: B.set i (l, vs.set 0 .non, ds.set 0 .non)) G16 H' ∧ acc.length = j) ?_ (fun _ _ _ _ => trivial) ?_ ?_⟩
      · exact ⟨[], [], oc.newL hN .nil, rfl⟩
      · rintro j xw Hc Hd hj ⟨acc, ads, od, ea⟩ ⟨rfl, _⟩
        have h4 : rd.cps.size ≤ 4 := hrd.most
        have oe := od.putAt (k := 0) rfl (Reps.snoc (od.repAt (k := 0) rfl) (v := .non) (d := .non) .non)
        rw [List.set_cons_zero] at oe
        exact ⟨rfl, acc, od.at_ (x := (N, acc, ads)) List.mem_cons_self, small_lt (by omega), _, _, oe, by rw [List.length_append, ea]; rfl⟩
      · rintro Hc ⟨acc, ads, od, ea⟩
        have oe := od.tail.setX (o' := .lst (ms.set i (.ref N)))
        refine ⟨_, rfl, _, rfl, D, ms, _, i, rfl, rfl, od.atX, by rw [Int.zero_add]; exact ixN_nat (by omega), ?_⟩
        refine ⟨ms.set i (.ref N), _, _, _, _, _, _, rfl, oe, by rw [List.length_set]; exact lms, by rw [List.length_set]; exact lf2, ?_, fun y my => ?_, fun j hj => ?_⟩
        · rw [List.map_set, ← eB]
          exact set_self (by rw [List.getElem?_map, hy]; rfl)
        · rcases List.mem_or_eq_of_mem_set my with z | z
          · exact hB1 y z
          · rw [z]
            show 1 ≤ (vs.set 0 V.non).length
            rw [List.length_set]
            exact hl1
        · rw [List.getElem?_set_ne (by omega)]
          exact hms j (by omega)
    · rintro σ H18 ⟨ms, fvs2, fds, B, v12, v13, v14, rfl, ob, _⟩
      have o18 := ob.all
      clear ob o17
      -- they still tell the same
      refine ⟨_, rfl, G16, _, p, rfl, o18.wd.sub, R9, fun H19 t2 a19 ht2 ht19 => ?_⟩
      have o19 := o18.call0 a19
      have s19 : Same G16 (grow G16 H18 H19) := grow_same
      have g19 : grow G16 H18 H19 t2 = some (.lst ((useful p).map vN)) := by
        rw [grow_new (o18.hs.fG ht2) ht2]
        exact ht19
      generalize grow G16 H18 H19 = G19 at o19 s19 g19
      refine ⟨_, rfl, G19, _, p, rfl, o19.wd.sub, q1.mono s19, ok1, fun H20 u20 a20 r20 => ?_⟩
      have o20 := o19.call0 a20
      have s20 : Same G19 (grow G19 H19 H20) := grow_same
      generalize grow G19 H19 H20 = G20 at o20 r20 s20
      refine ⟨G20, .ref t2, u20, dUse p, dUse p, rfl, o20.wd.sub, .lst (s20 _ _ g19) (Reps.nats _), r20, use1, fun b hb => ⟨_, rfl, ifF (notF (hb.mpr rfl)) ?_⟩⟩
      have s20 := s19.trans s20
      have q1 := q1.mono s20
      have q2 := q2.mono s20
      have R9 := R9.mono s20
      have R10 := R10.mono s20
      have r12 := r12.mono s20
      clear s20 s19 o19 o18 g19
      refine ⟨_, rfl, G20, _, p2, rfl, o20.wd.sub, R10, fun H21 t3 a21 ht3 ht21 => ?_⟩
      have o21 := o20.call0 a21
      have s21 : Same G20 (grow G20 H20 H21) := grow_same
      have g21 : grow G20 H20 H21 t3 = some (.lst ((useful p2).map vN)) := by
        rw [grow_new (o20.hs.fG ht3) ht3]
        exact ht21
      generalize grow G20 H20 H21 = G21 at o21 s21 g21
      refine ⟨_, rfl, G21, two, p2, rfl, o21.wd.sub, q2.mono s21, ok2, fun H22 u22 a22 r22 => ?_⟩
      have o22 := o21.call0 a22
      have s22 : Same G21 (grow G21 H21 H22) := grow_same
      generalize grow G21 H21 H22 = G22 at o22 r22 s22
      refine ⟨G22, .ref t3, u22, dUse p2, dUse p2, rfl, o22.wd.sub, .lst (s22 _ _ g21) (Reps.nats _), r22, use2, fun b hb => ⟨_, rfl, ifF (notF (hb.mpr rfl)) ?_⟩⟩
      have s22 := s21.trans s22
      have q1 := q1.mono s22
      have q2 := q2.mono s22
      have R9 := R9.mono s22
      have R10 := R10.mono s22
      have r12 := r12.mono s22
      clear s22 s21 o21 o20 g21
      -- both readers have their parts
      refine ⟨_, rfl, G22, _, p2, rfl, o22.wd.sub, R10, fun H23 u23 a23 r23 => ?_⟩
      have o23 := o22.call0 a23
      have s23 : Same G22 (grow G22 H22 H23) := grow_same
      generalize grow G22 H22 H23 = G23 at o23 r23 s23
      refine ⟨_, rfl, G23, u23, two, dPt p2, dPt p2, rfl, o23.wd.sub, r23, q2.mono s23, fit2, fun b hb => ⟨_, rfl, ifF (notF (hb.mpr rfl)) ?_⟩⟩
      refine ⟨_, rfl, G23, _, p, rfl, o23.wd.sub, R9.mono s23, fun H24 u24 a24 r24 => ?_⟩
      have o24 := o23.call0 a24
      have s24 : Same G22 (grow G23 H23 H24) := s23.trans grow_same
      generalize grow G23 H23 H24 = G24 at o24 r24 s24
      refine ⟨_, rfl, G24, u24, bef, dPt p, dPt p, rfl, o24.wd.sub, r24, r12.mono s24, fit1, fun b hb => ⟨_, rfl, ifT (hb.mpr rfl) ?_⟩⟩
      refine ⟨_, rfl, _, rfl, G24, bef, .ref a, dPt p, dPt p, rfl, o24.wd.sub, r12.mono s24, q1.mono s24, fit1, fun b2 hb2 => ?_⟩
      rw [hb2.mpr rfl]
      exact k _
  · refine ⟨_, rfl, G5, s, c, ns, _, rfl, o5.wd, by decide, fun H6 d a6 d0 d1 => ⟨rfl, _, rfl, ifD (fun h => ?_) (fun h => ?_)⟩⟩
    · have o6 := o5.call a6
      have r46 := r45.mono (grow_same (G := G5) (H := H5) (H' := H6))
      refine ⟨_, rfl, _, rfl, _, rfl, _, s, c, ns, rd, wr, rfl, o6.wd, hrd, hwr, fun H7 two p3 a7 r7 _ _ ok5 => ?_⟩
      exact ⟨_, two, p3, rfl, o6.call a7, r46.mono grow_same, r7, ok5.mono (by decide)⟩
    · exact ⟨_, two, p2, rfl, o5.call a6, r45.mono grow_same, r5.mono grow_same, ok4.mono (by decide)⟩
end

end Lag

namespace Lag
open PySem PySem.Spec PyProof.Rows L2
def loose0 : List PySem.Str := ["_wall", "LagError", "BadLetters", "BadWord", "BadNumber", "BadEntry", "Mismatch", "TooLarge", "MOST_LETTERS", "LONGEST_WORD", "SMALL_LETTERS", "consists_of", "is_letters", "is_word", "is_short_word", "check_letters", "check_word", "ending_states", "MOST_STATES", "MOST_WRITTEN", "is_written", "is_state", "is_move", "is_row", "check_moves", "check_finals", "walk", "fitting", "Reader", "joint_move"]
def loose1 : List PySem.Str := ["joint_final", "joint_pairs", "joint_rows", "empty_reader", "reached_states", "useful_reader_states", "_law_mix", "_law_store", "_law_take", "_law_pick", "_law_between", "_law_letters", "_law_word", "_law_unlike_word", "_law_reader", "_law_near_reader", "_law_wide_reader", "_law_same", "_law_copy", "_law_lists", "_law_wreck", "_law_reader_of", "_law_reader_parts_of", "_law_reached", "_law_due", "_law_drawn"]
def loose : List PySem.Str := loose0 ++ loose1
abbrev R : PySem.W.OpenRow := PySem.W.OpenLaw.row PySem.Challenge.rw_lagbound_k64_useful_states_of_readers
abbrev hk : PySem.W.Hook := hookP 6 fa fn gs
def ob (s : PySem.W.SharedT) : AlG := obsPG 6 fa fn gs (HandSHeadRun.getT s)
theorem ob_eq (s : PySem.W.SharedT) : ob s = hk.obs s.abs := obsPG_eq (HandSHeadRun.getT_eq s)
theorem run (w : World) : HandSHeadRun.RunEq R (PySem.W.view R.prog [62]) hk ob 4000 loose w := by
  intro os
  kernel_rfl
end Lag

namespace Lag
open PySem PySem.Spec PyProof.Rows L2
theorem facts {P : Program} {w : World} {K : PySem.W.Frag} {h : Heap} {mg : Str → Option Value} {f : Addr} (X : K.In h) (G : h.Ns mainGlobals mg) (hfa : mg ("law" : Str) = some (.ref f)) (c : SaysP fa fn gs K) :
    ∃ fd : FuncData, (∀ (s : Shared) (v : Value), BindsTo s fd ⟨[v], []⟩ [("_law_script", v)]) ∧ ∀ base : Heap, K.In base → base.Ns mainGlobals mg → FnOk P w K mg base CX0 (11) f fd ["_law_script"] (sp_law K) := by
  have T : Top K mg := ⟨h, X, G, c⟩
  obtain ⟨fd, F⟩ := d_law T
  have e := hfa.symm.trans (g_law T)
  cases e
  have b := FunD.bindsA (ps := ["_law_script"]) F fun _ _ _ _ _ _ us hl => match us, hl with | [_], _ => rfl
  exact ⟨fd, fun s v => b s [v] rfl, fun base _ _ => ok_law T F⟩
end Lag
open PySem PySem.W PySem.Calls PyProof.Rows
theorem PySem.Challenge.cw_lagbound_k64_useful_states_of_readers_holds : PySem.Challenge.rw_lagbound_k64_useful_states_of_readers.Holds := by
  w_on; o_law
  refine HandSHeadRun.head_any (r := OpenLaw.row PySem.Challenge.rw_lagbound_k64_useful_states_of_readers) (q := view (OpenLaw.row PySem.Challenge.rw_lagbound_k64_useful_states_of_readers).prog [62]) (H := Lag.hk) (ob := Lag.ob) (M := 4000) (loose := Lag.loose) (d := HandSHeadRun.topDef (OpenLaw.row PySem.Challenge.rw_lagbound_k64_useful_states_of_readers).prog 62) (kwd := []) Lag.ob_eq
    (by kernel_rfl) (fun s => by kernel_rfl) Lag.run (by kernel_rfl) (by kernel_rfl) (by kernel_rfl) (by rfl) (by first | assumption | decide +kernel) (by decide +kernel) ⟨rfl, rfl, rfl, rfl, rfl, by decide +kernel⟩ ?hw ?hc
  case hw => w_witness2
  case hc =>
    refine L2.walk_ofE (l := PySem.Challenge.rw_lagbound_k64_useful_states_of_readers) (n := 63) (k := 11) (x := "_law_script") (CX := L2.CX0) rfl (by decide) (by kernel_rfl) ⟨rfl, by decide, by decide⟩ ?F (fun _ _ _ _ z => z)
    intro w mg fa h Y G hmg0
    obtain ⟨K, KX, c⟩ := Y
    have hmg : mg ("law" : PySem.Str) = some (.ref fa) := by
      have e : (HandSHeadRun.topDef (OpenLaw.row PySem.Challenge.rw_lagbound_k64_useful_states_of_readers).prog 62).name = ("law" : PySem.Str) := by kernel_rfl
      rw [← e]
      exact hmg0
    obtain ⟨fd, hb, hF⟩ := Lag.facts (P := (PySem.Challenge.rw_lagbound_k64_useful_states_of_readers).prog) (w := w) KX G hmg c
    exact ⟨K, fd, Lag.sp_law K, KX, hb, fun H a ns hl _ hS => ⟨a, ns, rfl, hS, hl, fun _ => rfl⟩, hF⟩
