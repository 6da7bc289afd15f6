import PyProof.Rows.All
import Wide.All
import OpenK.AllK
import Wide.FinOn
import HandS.Base
import HandS.Call
import HandS.Exc
import HandS.Defaults
import HandS.HeadHook2
import KE.KNestM
import PyProof.GenQ
import HandS.List
import HandS.Comp
import HandS.GenOver
import HandS.AnyAll
import KE.KExcSuper
import HandS.ExcInit
import HandS.FStr
import HandS.FStrTup
import HandS.HeadWalk
import HandS.Lambda
import HandS.WordsExc
import HandS.TupAny
import HandS.IsInst
import HandS.Style
import HandS.Zip
import HandS.Iter
import KE.SortData
import HandS.Deep
import HandS.Property
import HandS.ExcOwn
import PyProof.SetRoads
import KE.KSetDisp
import HandS.SetIn
import HandS.TryMany
import HandS.ExcIs
import HandS.ExcBuiltin
import HandS.Words
import PySem.Challenge.RW_duethread_k00_lists_and_round_ways
import HandS.Conv
import HandS.Wide
import KE.KStateDown
import Lean
import HandS.Ends
import HandS.More
import HandS.Head0
import HandS.Head1
import HandS.Head2
import HandS.HeadEnd
import HandS.HeadHook1
import HandS.EndTab
set_option Elab.async false
set_option linter.all false
set_option maxRecDepth 100000
set_option maxHeartbeats 0
/-! the head's facts: any test of the written part, any def with the names of its closure -/
namespace D7
open PySem PySem.Spec PyProof.Rows L2 He
abbrev Fb : Type := PySem.W.Frag → Bool
abbrev FnC : Type := Option (Str × Str × Arguments × FuncBody × Scope × Addr × List Str × Addr)
def fnC (K : PySem.W.Frag) (f : Addr) : FnC := match K.lookup f with
  | some ⟨_, _, .func z, _⟩ => some (z.name, z.qualname, z.params, z.body, z.scope, z.globals, z.closure.map (·.1), z.builtins)
  | _ => none
/-- a property's getter -/
def getA (K : PySem.W.Frag) (x m : Str) : Addr := match PySem.W.recIn K (ma K (ga K x) m) "property" with
  | some (.ref g :: _) => g
  | _ => 0
structure DefC where
  d : DefD
  clo : List Str := []
  adr : PySem.W.Frag → Addr := fun K => fAd K d.at_
def DefC.val (q : DefC) : FnC := some (q.d.name, q.d.qual, q.d.params, .stmts q.d.body, q.d.scope, mainGlobals, q.clo, builtinsNs)
def DefC.ok (K : PySem.W.Frag) (q : DefC) : Bool := PySem.W.keepIn K (.ref (q.adr K)) && (match K.lookup (q.adr K) with
  | some ⟨_, _, .func fd, _⟩ => PySem.W.codeIn K fd.code q.d.qual && (dflB K fd.defaults (q.d.dvs K) && kwdB K fd.kwdefaults (q.d.kws K))
  | _ => false)
theorem DefC.fun0 {K : PySem.W.Frag} {q : DefC} (hq : q.clo = []) (e : fnC K (q.adr K) = q.val) (c : q.ok K = true) :
    ∃ fd, FunD K q.d.name q.d.qual q.d.params q.d.body q.d.scope (q.d.dvs K) (q.d.kws K) (q.adr K) fd := by
  obtain ⟨kp, c2⟩ := ba c
  unfold fnC at e
  cases h : K.lookup (q.adr K) with
  | none => rw [h] at e; cases e
  | some o =>
    obtain ⟨oc, od, dt, osl⟩ := o
    rw [h] at e c2
    cases dt with
    | func z =>
      obtain ⟨n1, n2, n3, n4, n5, n6, n7, n8, n9, n10, n11, n12, n13, n14, n15⟩ := z
      have e2 : (some (n1, n2, n3, n4, n5, n6, n7.map (·.1), n15) : FnC) = some (q.d.name, q.d.qual, q.d.params, .stmts q.d.body, q.d.scope, mainGlobals, q.clo, builtinsNs) := e
      simp only [Option.some.injEq, Prod.mk.injEq] at e2
      obtain ⟨h1, h2, h3, h4, h5, h6, h7, h8⟩ := e2
      have h9 : n7 = [] := List.map_eq_nil_iff.mp (h7.trans hq)
      subst h1 h2 h3 h4 h5 h6 h8 h9
      have c3 : (PySem.W.codeIn K n13 q.d.qual && (dflB K n8 (q.d.dvs K) && kwdB K n9 (q.d.kws K))) = true := c2
      obtain ⟨k1, k2⟩ := ba c3
      obtain ⟨k3, k4⟩ := ba k2
      exact ⟨_, ⟨oc, od, n8, n9, n10, n11, n12, n13, n14, osl, rfl, h, k1, dflB_ok k3, kwdB_ok k4⟩, kp⟩
    | _ => cases e
/-- a def that captures one name -/
theorem DefC.fun1 {K : PySem.W.Frag} {q : DefC} {x : Str} (hq : q.clo = [x]) (e : fnC K (q.adr K) = q.val) (c : q.ok K = true) :
    ∃ cc oc od dV kV doc pm an cdv ct osl, K.lookup (q.adr K) = some ⟨oc, od, .func (PySem.W.fnX q.d.name q.d.qual q.d.params q.d.body q.d.scope [(x, cc)] dV kV doc pm an cdv ct), osl⟩ ∧ PySem.W.codeIn K cdv q.d.qual = true ∧ (q.d.dfl = [] → dV = .none) := by
  obtain ⟨kp, c2⟩ := ba c
  unfold fnC at e
  cases h : K.lookup (q.adr K) with
  | none => rw [h] at e; cases e
  | some o =>
    obtain ⟨oc, od, dt, osl⟩ := o
    rw [h] at e c2
    cases dt with
    | func z =>
      obtain ⟨n1, n2, n3, n4, n5, n6, n7, n8, n9, n10, n11, n12, n13, n14, n15⟩ := z
      have e2 : (some (n1, n2, n3, n4, n5, n6, n7.map (·.1), n15) : FnC) = some (q.d.name, q.d.qual, q.d.params, .stmts q.d.body, q.d.scope, mainGlobals, q.clo, builtinsNs) := e
      simp only [Option.some.injEq, Prod.mk.injEq] at e2
      obtain ⟨h1, h2, h3, h4, h5, h6, h7, h8⟩ := e2
      rw [hq] at h7
      obtain ⟨⟨y, cc⟩, hr, hy⟩ : ∃ p : Str × Addr, n7 = [p] ∧ p.1 = x := by
        cases n7 with
        | nil => cases h7
        | cons p r =>
          cases r with
          | nil => exact ⟨p, rfl, by injection h7⟩
          | cons _ _ => simp at h7
      subst h1 h2 h3 h4 h5 h6 h8 hr
      cases hy
      have c3 : (PySem.W.codeIn K n13 q.d.qual && (dflB K n8 (q.d.dvs K) && kwdB K n9 (q.d.kws K))) = true := c2
      obtain ⟨k1, k2⟩ := ba c3
      obtain ⟨k3, k4⟩ := ba k2
      refine ⟨cc, oc, od, n8, n9, n10, n11, n12, n13, n14, osl, rfl, k1, fun hd => ?_⟩
      have k5 : dflB K n8 [] = true := by
        have e3 : q.d.dvs K = [] := by unfold DefD.dvs; rw [hd]; rfl
        rw [← e3]; exact k3
      cases n8 with
      | none => rfl
      | _ => cases k5
    | _ => cases e
abbrev AlM : Type := Bool × List FnC
def obsM (fa : List Fb) (fn : List DefC) (K : PySem.W.Frag) : AlM := ((fa.all fun f => f K) && fn.all fun q => q.ok K, fn.map fun q => fnC K (q.adr K))
def valM (fn : List DefC) : AlM := (true, fn.map DefC.val)
def SaysM (fa : List Fb) (fn : List DefC) (K : PySem.W.Frag) : Prop := obsM fa fn K = valM fn
def obsMG (n : Nat) (fa : List Fb) (fn : List DefC) (g : Addr → Option Obj) : AlM := obsM fa fn (frG g (asD g n))
def hookM (n : Nat) (fa : List Fb) (fn : List DefC) : PySem.W.Hook where
  α := AlM
  obs := fun s => obsMG n fa fn s.heap.get?
  val := fun _ => valM fn
  says := fun _ h => ∃ K : PySem.W.Frag, K.In h ∧ SaysM fa fn K
  of := fun _ _ e => ⟨_, frG_in, e⟩
  keeps := fun _ _ _ ⟨K, hK, c⟩ k => ⟨K, PySem.W.Frag.In.keeps hK k, c⟩
theorem obsMG_eq {n : Nat} {fa : List Fb} {fn : List DefC} {g : Addr → Option Obj} {s : Shared} (h : ∀ a, g a = s.heap.get? a) : obsMG n fa fn g = (hookM n fa fn).obs s := by
  have e : g = s.heap.get? := funext h
  rw [e] <;> rfl
section
variable {fa : List Fb} {fn : List DefC} {K : PySem.W.Frag}
theorem SaysM.fact (c : SaysM fa fn K) (i : Nat) {f : Fb} (h : fa[i]? = some f := by rfl) : f K = true := by
  have c1 := (ba (show ((fa.all fun f => f K) && fn.all fun q => q.ok K) = true from congrArg (fun z : AlM => z.1) c)).1
  exact List.all_eq_true.mp c1 f (List.mem_of_getElem? h)
theorem SaysM.fns (c : SaysM fa fn K) (i : Nat) {q : DefC} (h : fn[i]? = some q := by rfl) : fnC K (q.adr K) = q.val ∧ q.ok K = true := by
  have c2 := (ba (show ((fa.all fun f => f K) && fn.all fun q => q.ok K) = true from congrArg (fun z : AlM => z.1) c)).2
  have e : fn.map (fun q => fnC K (q.adr K)) = fn.map DefC.val := congrArg (fun z : AlM => z.2) c
  have e2 : (fn.map fun q => fnC K (q.adr K))[i]? = (fn.map DefC.val)[i]? := by rw [e]
  rw [List.getElem?_map, List.getElem?_map, h] at e2
  exact ⟨Option.some.inj e2, List.all_eq_true.mp c2 q (List.mem_of_getElem? h)⟩
theorem SaysM.def0 (c : SaysM fa fn K) (i : Nat) {q : DefC} (h : fn[i]? = some q := by rfl) (hq : q.clo = [] := by rfl) : ∃ fd, FunD K q.d.name q.d.qual q.d.params q.d.body q.d.scope (q.d.dvs K) (q.d.kws K) (q.adr K) fd :=
  DefC.fun0 hq (c.fns i h).1 (c.fns i h).2
end
end D7
/-! the head's facts, and the tables of the defs that make lambdas or generator expressions: these are no part of the written part -/
namespace D7
open PySem PySem.Spec PyProof.Rows L2 He PySem.HandSPX
def isTab (o : Obj) : Bool := match o.cls, o.data with
  | .none, .fields _ => true
  | _, _ => false
def frT (g : Addr → Option Obj) (as : List Addr) : PySem.W.Frag := (frG g as).filter fun p => !isTab p.2
theorem mem_frG {g : Addr → Option Obj} {as : List Addr} {p : Addr × Obj} (h : p ∈ frG g as) : g p.1 = some p.2 := by
  unfold frG at h
  obtain ⟨a, _, e⟩ := List.mem_filterMap.mp h
  cases q : g a with
  | none => rw [q] at e; cases e
  | some o => rw [q] at e; cases e; exact q
theorem frT_in {as : List Addr} {h : Heap} : (frT h.get? as).In h := fun a o e => by
  have m := PySem.W.mem_of_lookupK e
  exact mem_frG (p := (a, o)) (List.mem_filter.mp m).1
def noTab (K : PySem.W.Frag) : Prop := ∀ p ∈ K, isTab p.2 = false
theorem frT_no {g : Addr → Option Obj} {as : List Addr} : noTab (frT g as) := fun p hp => by
  have := (List.mem_filter.mp hp).2
  simpa using this
abbrev Fp : Type := Str × Option Str
def codeOf (K : PySem.W.Frag) (p : Fp) : Addr := match K.lookup (fAd K p) with
  | some ⟨_, _, .func fd, _⟩ => (match fd.code with
    | .ref c => c
    | _ => 0)
  | _ => 0
def tabOf (K : PySem.W.Frag) (p : Fp) : Addr := match K.lookup (codeOf K p) with
  | some ⟨_, _, .fields vs, _⟩ => (match (vs[11]? : Option Value) with
    | some (.ref P) => P
    | _ => 0)
  | _ => 0
def codeOk (K : PySem.W.Frag) (p : Fp) : Bool := (match K.lookup (fAd K p) with
  | some ⟨_, _, .func fd, _⟩ => (match fd.code with
    | .ref _ => true
    | _ => false)
  | _ => false) && PySem.W.codeHdIn K (codeOf K p) (tabOf K p)
def emptyT (o : Option Obj) : Bool := match o with
  | some ⟨.none, none, .fields vs, sl⟩ => vs.toList.isEmpty && sl.toList.isEmpty
  | _ => false
theorem emptyT_ok {o : Option Obj} (h : emptyT o = true) : o = some { cls := .none, data := .fields #[] } := by
  unfold emptyT at h
  split at h
  · rename_i vs sl
    simp only [Bool.and_eq_true, List.isEmpty_iff] at h
    obtain ⟨h1, h2⟩ := h
    obtain ⟨vs⟩ := vs
    obtain ⟨sl⟩ := sl
    cases h1
    cases h2
    rfl
  · cases h
theorem codeOk_code {K : PySem.W.Frag} {p : Fp} (h : codeOk K p = true) {oc od fd sl} (e : K.lookup (fAd K p) = some ⟨oc, od, .func fd, sl⟩) : fd.code = .ref (codeOf K p) := by
  have h1 := (ba h).1
  unfold codeOf
  rw [e] at h1 ⊢
  cases q : fd.code <;> simp_all
abbrev AlT : Type := AlM × List Bool
def obsT (fa : List Fb) (fn : List DefC) (tl : List Fp) (K : PySem.W.Frag) (g : Addr → Option Obj) : AlT := (obsM fa fn K, tl.map fun p => codeOk K p && emptyT (g (tabOf K p)))
def valT (fn : List DefC) (tl : List Fp) : AlT := (valM fn, tl.map fun _ => true)
structure SaysT (fa : List Fb) (fn : List DefC) (tl : List Fp) (K : PySem.W.Frag) (h : Heap) : Prop where
  kin : K.In h
  m : SaysM fa fn K
  no : noTab K
  code : ∀ p ∈ tl, codeOk K p = true
  tab : ∀ p ∈ tl, h.get? (tabOf K p) = some { cls := .none, data := .fields #[] }
def obsTG (n : Nat) (fa : List Fb) (fn : List DefC) (tl : List Fp) (g : Addr → Option Obj) : AlT := obsT fa fn tl (frT g (asD g n ++ [cStatics])) g
def hookT (n : Nat) (fa : List Fb) (fn : List DefC) (tl : List Fp) : PySem.W.Hook where
  α := AlT
  obs := fun s => obsTG n fa fn tl s.heap.get?
  val := fun _ => valT fn tl
  says := fun _ h => ∃ K : PySem.W.Frag, SaysT fa fn tl K h
  of := fun _ s e => by
    refine ⟨frT s.heap.get? (asD s.heap.get? n ++ [cStatics]), frT_in, (Prod.mk.inj e).1, frT_no, fun p hp => ?_, fun p hp => ?_⟩
    · have := List.map_inj_left.mp (Prod.mk.inj e).2 p hp
      exact (ba this).1
    · have := List.map_inj_left.mp (Prod.mk.inj e).2 p hp
      exact emptyT_ok (ba this).2
  keeps := fun _ _ _ ⟨K, x⟩ k => ⟨K, PySem.W.Frag.In.keeps x.kin k, x.m, x.no, x.code, fun p hp => k _ _ (x.tab p hp)⟩
theorem obsTG_eq {n : Nat} {fa : List Fb} {fn : List DefC} {tl : List Fp} {g : Addr → Option Obj} {s : Shared} (h : ∀ a, g a = s.heap.get? a) : obsTG n fa fn tl g = (hookT n fa fn tl).obs s := by
  have e : g = s.heap.get? := funext h
  rw [e] <;> rfl
section
variable {fa : List Fb} {fn : List DefC} {tl : List Fp} {K : PySem.W.Frag} {h : Heap}
theorem SaysT.hd (x : SaysT fa fn tl K h) {p : Fp} (hp : p ∈ tl) : PySem.W.CodeHd h (codeOf K p) (tabOf K p) := PySem.W.codeHd_of_K x.kin (ba (x.code p hp)).2
theorem SaysT.nolook (x : SaysT fa fn tl K h) {p : Fp} (hp : p ∈ tl) : K.lookup (tabOf K p) = none := by
  cases q : K.lookup (tabOf K p) with
  | none => rfl
  | some o =>
    have e := x.kin _ _ q
    rw [x.tab p hp] at e
    cases e
    have z := x.no _ (PySem.W.mem_of_lookupK q)
    cases z
end
end D7
/-! a generator expression that is used up at once, over any walk, with any element -/
namespace D7
open PySem PySem.Spec PyProof.Rows L2
/-- the generator expression's running frame -/
abbrev gcx (X : Cx) (A : Around) (s : Shared) (H : Hp) (cenv : Env) (fp : List Addr) : Cx :=
  { X with A := A, s_0 := s, H_0 := H, env := cenv, outer := X.stack, stack := cenv :: X.stack, ex := fp, fn := fun _ => false, calm := true, pn := [], xe := fun _ _ => False }
/-- the same, asleep -/
abbrev gsl (X : Cx) (A : Around) (s : Shared) (H : Hp) (cenv : Env) (fp : List Addr) : Cx :=
  { X with A := A, s_0 := s, H_0 := H, env := cenv, outer := X.stack, stack := X.stack, ex := fp, fn := fun _ => false, calm := true, pn := [], xe := fun _ _ => False }
abbrev gE (elt tg iter : Expr) (ifs : List Expr) (scope : Scope) (pos : Pos) : Expr := .GeneratorExp elt [⟨tg, iter, ifs, 0⟩] scope pos
section
variable {X : Cx} {pins : List (Addr × Obj)} {σ : L2.St} {H : Hp} {s : Shared}
/-- what the pinned objects of Ad are -/
abbrev PL (Ad : List Addr) (h : Heap) : List (Addr × Obj) := pinsAt Ad h
/-- the inner frame stands: waking and falling asleep -/
theorem Ok_wake {A A' : Around} {s0 : Shared} {H0 : Hp} {cenv : Env} {fp : List Addr} (ok : (gsl X A s0 H0 cenv fp).Ok) (hd : A'.handled = none) (hf : A'.frames = some (cenv :: X.stack)) (hfr : cenv.frame = some cenv.locals) :
    (gcx X A' s0 H0 cenv fp).Ok :=
  ⟨ok.mod, ok.kind, ok.glob, ok.blt, ok.above, ok.inj, ok.has, ok.cab, fun _ => hd, hf, .inr ⟨rfl, hfr⟩, ok.exf, ok.bs, ok.bsz, ok.noex, ok.exfs, ok.funs, ok.frf⟩
theorem Ok_sleep {A A' : Around} {s0 : Shared} {H0 : Hp} {cenv : Env} {fp : List Addr} (ok : (gcx X A' s0 H0 cenv fp).Ok) (hd : A.handled = none) (hf : A.frames = some X.stack) : (gsl X A s0 H0 cenv fp).Ok :=
  ⟨ok.mod, ok.kind, ok.glob, ok.blt, ok.above, ok.inj, ok.has, ok.cab, fun _ => hd, hf, .inl rfl, ok.exf, ok.bs, ok.bsz, ok.noex, ok.exfs, ok.funs, ok.frf⟩
theorem Inv_re {Y Z : Cx} {pl : List (Addr × Obj)} (I : Inv Y pl σ H s) (okZ : Z.Ok) (e : Y = { Z with A := Y.A, stack := Y.stack }) : Inv Z pl σ H s := by
  obtain ⟨ok, os, bare, base, loc, cell, free, freeC, pin, hok, len⟩ := I
  rw [e] at os base loc cell free freeC pin hok len
  exact ⟨okZ, os, bare, base, loc, cell, free, freeC, pin, hok, len⟩
theorem Inv_wake {A A' : Around} {s0 : Shared} {H0 : Hp} {cenv : Env} {fp : List Addr} {pl : List (Addr × Obj)} (I : Inv (gsl X A s0 H0 cenv fp) pl σ H s) (hd : A'.handled = none) (hf : A'.frames = some (cenv :: X.stack))
    (hfr : cenv.frame = some cenv.locals) : Inv (gcx X A' s0 H0 cenv fp) pl σ H s := Inv_re I (Ok_wake I.ok hd hf hfr) rfl
theorem Inv_sleep {A A' : Around} {s0 : Shared} {H0 : Hp} {cenv : Env} {fp : List Addr} {pl : List (Addr × Obj)} (I : Inv (gcx X A' s0 H0 cenv fp) pl σ H s) (hd : A.handled = none) (hf : A.frames = some X.stack) :
    Inv (gsl X A s0 H0 cenv fp) pl σ H s := Inv_re I (Ok_sleep I.ok hd hf) rfl
/-- other generators, the heap as it is -/
theorem Inv_gens (I : Inv X pins σ H s) {g : Array GenState} (hg : AllBare g) : Inv X pins σ H { s with gens := g } :=
  ⟨I.ok, I.os, hg, I.base, I.loc, I.cell, I.free, I.freeC, I.pin, I.hok, I.len⟩
theorem bare_set {s : Shared} {g : Nat} {x : GenState} (h : AllBare s.gens) (hx : x.bare = true) : AllBare (s.setGen g x).gens := by
  intro y hy
  have hy' : y ∈ s.gens.setIfInBounds g x := hy
  rcases Array.mem_or_eq_of_mem_setIfInBounds hy' with z | z
  · exact h y z
  · rw [z]; exact hx
end

section
variable {γ : Type} {Y : Cx} {A2 : Around} {J : It} {fp : List Addr} {it : Addr} {tn : Nat → Heap → Prop} {elt tg iter : Expr} {ifs : List Expr} {scope : Scope} {pos : Pos} {gT : TG} {tt : TT} {te : TE} {σ0 : L2.St} {vs : List Nat}
  {fin : γ → Hp → Prop} {cons : γ → V → Hp → (γ → Hp → Prop) → Prop} {W : γ → Nat → Nat → Hp → Prop} {Z : γ → Heap → Prop} {Ad : List Addr} {G : Nat}
/-- one turn's reading: c what the user of the values holds -/
def GTurn (J : It) (gT : TG) (tt : TT) (te : TE) (σ0 : L2.St) (vs : List Nat) (fin : γ → Hp → Prop) (cons : γ → V → Hp → (γ → Hp → Prop) → Prop) (W : γ → Nat → Nat → Hp → Prop) : Prop :=
  ∀ c i m H, W c i m H → (J.stop i H ∧ fin c H) ∨ (J.go i H ∧ ∃ N : γ → Hp → Prop, (∀ c' H', N c' H' → ∃ m', m' < m ∧ W c' (i + 1) m' H') ∧
    ∀ x H', J.yld i H x H' → gT x σ0 H' fun σ2 H2 => wipe σ2 vs = σ0 ∧ tt σ2 H2 fun b H3 => if b = true then te σ2 H3 fun y H4 => cons c y H4 N else N c H3)
/-- the end of the generator's code, as seen by who resumed it at s0 -/
def GEnd_ (Y : Cx) (Ad : List Addr) (σ0 : L2.St) (Z : γ → Heap → Prop) (fin : γ → Hp → Prop) (G : Nat) : Nat → Shared → Shared → Prop := fun _ s0 s1 =>
  ∃ c H, Z c s0.heap ∧ Inv Y (PL Ad s0.heap) σ0 H s1 ∧ fin c H ∧ G ≤ s1.gens.size
def GYld (Y : Cx) (Ad fp : List Addr) (tn : Nat → Heap → Prop) (σ0 : L2.St) (Z : γ → Heap → Prop) (cons : γ → V → Hp → (γ → Hp → Prop) → Prop) (G : Nat) : Protocol := fun n s0 v s1 kap =>
  ∃ c y H N i, Z c s0.heap ∧ Inv Y (PL Ad s0.heap) σ0 H s1 ∧ RelV y v ∧ tn i s1.heap ∧ (∀ b ∈ fp, H b = none) ∧ G ≤ s1.gens.size ∧ cons c y H N ∧
    ∀ s2 c' H', N c' H' → Z c' s2.heap → Inv Y (PL Ad s2.heap) σ0 H' s2 → tn i s2.heap → (∀ b ∈ fp, H' b = none) → G ≤ s2.gens.size → 0 < n ∧ kap (.send .none) s2
theorem seg_gen (hA : Y.A = A2.over (.compLoop (gE elt tg iter ifs scope pos) 0 (.ref it) .none Y.env) []) (hxe : ∀ e s, ¬ Y.xe e s) (hc : Y.calm = true) (hpn : Y.pn = []) (hex : Y.ex = fp) (hco : Y.env.scope.isCoroutine = false)
    (T : Turn Y.prog Y.w Y.K tg J fp it tn) (hAd : ∀ b ∈ Ad, b ∉ fp) (pg : PG Y tg gT) (pt : PTs Y ifs tt) (pe : PE Y elt te) (turn : GTurn J gT tt te σ0 vs fin cons W) (hw : ∀ σ2 : L2.St, wipe σ2 vs = σ0 → σ0.length = σ2.length) :
    ∀ (m n : Nat) (c : γ) (i : Nat) (H : Hp) (s0 s : Shared), m < n → W c i m H → Z c s0.heap → Inv Y (PL Ad s0.heap) σ0 H s → tn i s.heap → (∀ b ∈ fp, H b = none) → G ≤ s.gens.size →
      Seg (model Y.prog Y.w) A2 (fun n s0 r s1 => r = .ok .next ∧ GEnd_ Y Ad σ0 Z fin G n s0 s1) (GYld Y Ad fp tn σ0 Z cons G) n s0
        (.compLoop (gE elt tg iter ifs scope pos) 0 (.ref it) .none Y.env) ((model Y.prog Y.w).den (.compLoop (gE elt tg iter ifs scope pos) 0 (.ref it) .none Y.env)) [] s := by
  intro m
  induction m using Nat.strongRecOn with
  | ind m ih =>
    intro n c i H s0 s hmn w z I st hfp hG
    have stat : ∀ {H' : Hp} {s' : Shared} {σ' : L2.St} {pl : List (Addr × Obj)}, Inv Y pl σ' H' s' → (∀ p ∈ pl, p.1 ∉ fp) → (∀ b ∈ fp, H' b = none) → ∀ b ∈ fp, FpOk Y pl H' b := fun {H' s' σ' pl} I' hpl hn b hb =>
      ⟨hn b hb, (I'.ok.exf b (by rw [hex]; exact hb)).1, I'.ok.exfs b (by rw [hex]; exact hb), .inl (by rw [hex]; exact hb), (I'.ok.exf b (by rw [hex]; exact hb)).2, fun p hp e => by
        rw [hpn, List.nil_append] at hp
        exact hpl p hp (by rw [e]; exact hb)⟩
    have hPL : ∀ p ∈ PL Ad s0.heap, p.1 ∉ fp := fun p hp => hAd _ (of_pinsAt hp).1
    show Seg _ A2 _ _ _ s0 _ ((compTurn (gE elt tg iter ifs scope pos) 0 (.ref it) .none Y.env).onRaise (leaving Y.env)) [] s
    rw [compTurn_gen, Sem.onRaise_eq_wrap]
    refine seg_bind_wrap (wpAny_standAt ?_)
    rcases turn c i m H w with ⟨stop, qf⟩ | ⟨go, N, hN, step⟩
    · refine seg_bind_wrap (GenW.wpAny_gsz hG ?_)
      rw [← hA]
      refine wpAny_mono (T.done Y rfl rfl rfl hc i _ s σ0 H (fun _ _ => False) I (stat I hPL hfp) st stop) (fun r s1 hr hG1 => ?_) fun _ _ e => e.elim
      obtain ⟨rfl, I1⟩ := hr
      exact seg_end (.ok .next) ⟨rfl, c, H, z, I1, qf, hG1⟩
    · refine seg_bind_wrap (GenW.wpAny_gsz hG ?_)
      rw [← hA]
      refine wpAny_mono (T.item Y rfl rfl rfl hc i _ s σ0 H (fun _ _ => False) I (stat I hPL hfp) st go) (fun r s1 hr hG1 => ?_) fun _ _ e => e.elim
      obtain ⟨u, rfl, h1⟩ := hr
      refine seg_bind_wrap (GenW.wpAny_gsz hG1 ?_)
      rw [← hA]
      refine wpAny_mono h1 (fun _ s2 hr hG2 => ?_) fun _ _ e => e.elim
      obtain ⟨x, H2, I2, rx, y2, st2, fr2⟩ := hr
      have I2' := I2.pinned (stat I2 hPL fr2) (T.obj _ _ st2)
      refine seg_bind_wrap (GenW.wpAny_gsz hG2 ?_)
      rw [← hA]
      refine wpAny_mono (pg.run _ s2 σ0 H2 x u _ I2' rx (step x H2 y2)) (fun _ s3 hr hG3 => ?_) fun _ _ e => (hxe _ _ e).elim
      obtain ⟨σ3, H3, I3, hw3, q3⟩ := hr
      refine seg_bind_wrap (GenW.wpAny_gsz hG3 ?_)
      rw [← hA]
      refine wpAny_mono (pt.run _ s3 σ3 H3 _ I3 q3) (fun b s4 hr hG4 => ?_) fun _ _ e => (hxe _ _ e).elim
      obtain ⟨H4, I4, q4⟩ := hr
      have back : ∀ {H' : Hp} {s' : Shared}, Inv Y (PL Ad s0.heap ++ pinsAt fp s2.heap) σ3 H' s' → Inv Y (PL Ad s0.heap) σ0 H' s' ∧ tn (i + 1) s'.heap ∧ ∀ b ∈ fp, H' b = none := fun {H' s'} I' => by
        have pin' : ∀ b ∈ fp, ∀ o, s2.heap.get? b = some o → s'.heap.get? b = some o ∧ H' b = none := fun b hb o e =>
          let z := I'.pin (b, o) (List.mem_append_right _ (List.mem_append_right _ (mem_pinsAt hb e)))
          ⟨z.1, z.2.1⟩
        refine ⟨I'.unpinned.weak (hw _ hw3) (fun j v e => ?_), T.keep _ _ _ st2 fun b hb o e => (pin' b hb o e).1, fun b hb => ?_⟩
        · rw [← hw3] at e
          exact (wipe_some e).1
        · obtain ⟨o, e, _⟩ := T.obj _ _ st2 b hb
          exact (pin' b hb o e).2
      cases b with
      | false =>
        simp only [Bool.false_eq_true, if_false] at q4 ⊢
        obtain ⟨I5, st5, fr5⟩ := back I4
        obtain ⟨m', hm, w'⟩ := hN c H4 q4
        exact seg_again rfl (ih m' hm n c (i + 1) H4 s0 s4 (Nat.lt_trans hm hmn) w' z I5 st5 fr5 hG4)
      | true =>
        simp only [if_true] at q4 ⊢
        have hy : ∀ v, yieldOut Y.env v = yieldValue v := fun v => by simp only [yieldOut, hco, Bool.false_eq_true, if_false]
        simp only [hy]
        rw [Sem.bind_eq_wrap', Sem.bind_eq_wrap', Sem.wrap_wrap, Sem.wrap_wrap]
        refine seg_wrap (GenW.wpAny_gsz hG4 ?_)
        rw [← hA]
        refine wpAny_mono (pe.run _ s4 σ3 H4 _ I4 q4) (fun v s5 hr hG5 => ?_) fun _ _ e => (hxe _ _ e).elim
        obtain ⟨yv, H5, I5, ry, q5⟩ := hr
        obtain ⟨I6, st6, fr6⟩ := back I5
        cases n with
        | zero => exact absurd hmn (Nat.not_lt_zero _)
        | succ n =>
          refine seg_at (seg_yield rfl rfl rfl ⟨c, yv, H5, N, i + 1, z, I6, ry, st6, fr6, hG5, q5, fun s7 c' H7 n7 z7 I7 st7 fr7 hG7 => ?_⟩)
          obtain ⟨m', hm, w'⟩ := hN c' H7 n7
          exact ⟨by omega, seg_again rfl (ih m' hm n c' (i + 1) H7 s7 s7 (by omega) w' z7 I7 st7 fr7 hG7)⟩
theorem seg_genS (hA : Y.A = A2.over (.compLoop (gE elt tg iter ifs scope pos) 0 (.ref it) .none Y.env) []) (hxe : ∀ e s, ¬ Y.xe e s) (hc : Y.calm = true) (hpn : Y.pn = []) (hex : Y.ex = fp) (hco : Y.env.scope.isCoroutine = false)
    (T : Turn Y.prog Y.w Y.K tg J fp it tn) (hAd : ∀ b ∈ Ad, b ∉ fp) (pg : PG Y tg gT) (pt : PTs Y ifs tt) (pe : PE Y elt te) (turn : GTurn J gT tt te σ0 vs fin cons W) (hw : ∀ σ2 : L2.St, wipe σ2 vs = σ0 → σ0.length = σ2.length)
    {m n : Nat} {c : γ} {i : Nat} {H : Hp} {s0 s : Shared} (hmn : m < n) (w : W c i m H) (z : Z c s0.heap) (I : Inv Y (PL Ad s0.heap) σ0 H s) (st : tn i s.heap) (hfp : ∀ b ∈ fp, H b = none) (hG : G ≤ s.gens.size) :
      Seg (model Y.prog Y.w) A2 (fun n s0 r s1 => r = .ok .next ∧ GEnd_ Y Ad σ0 Z fin G n s0 s1) (GYld Y Ad fp tn σ0 Z cons G) n s0
        (.compStart (gE elt tg iter ifs scope pos) 0 (.ref it) .none Y.env) ((model Y.prog Y.w).den (.compStart (gE elt tg iter ifs scope pos) 0 (.ref it) .none Y.env)) [] s := by
  have loop := seg_gen (σ0 := σ0) (vs := vs) (G := G) hA hxe hc hpn hex hco T hAd pg pt pe turn hw m n c i H s0 s hmn w z I st hfp hG
  show Seg _ A2 _ _ _ s0 _ ((compStart (gE elt tg iter ifs scope pos) 0 (.ref it) .none Y.env).onRaise (leaving Y.env)) [] s
  unfold compStart
  rw [Sem.onRaise_eq_wrap]
  show Seg _ A2 _ _ _ s0 _ ((ask >>= _).wrap _ _ _ _) [] s
  refine seg_bind_wrap (wpAny_askSetting ?_)
  split
  · exact seg_again rfl loop
  · refine seg_bind_wrap (wpAny_rule ?_)
    show Seg _ A2 _ _ _ s0 _ ((standAt iter.pos >>= _).wrap _ _ _ _) [] s
    exact seg_bind_wrap (wpAny_standAt (seg_bind_wrap (T.self _ i s _ _ st (seg_again rfl loop))))
end

section
variable {γ : Type} {X : Cx} {A1 A' : Around} {sB : Shared} {HB : Hp} {cenv : Env} {fp : List Addr} {tn : Nat → Heap → Prop} {σ0 : L2.St}
  {fin : γ → Hp → Prop} {cons : γ → V → Hp → (γ → Hp → Prop) → Prop} {Z : γ → Heap → Prop} {Ad : List Addr} {a : Addr} {g : Nat}
/-- the generator at a, number g, ready to be asked: the user holds c -/
def Sus (X : Cx) (A1 A' : Around) (sB : Shared) (HB : Hp) (cenv : Env) (fp : List Addr) (tn : Nat → Heap → Prop) (σ0 : L2.St) (fin : γ → Hp → Prop) (cons : γ → V → Hp → (γ → Hp → Prop) → Prop) (Z : γ → Heap → Prop) (Ad : List Addr) (a : Addr) (g : Nat)
    (c : γ) (n : Nat) (s : Shared) : Prop :=
  ∃ H gs, 0 < n ∧ Z c s.heap ∧ Inv (gsl X A1 sB HB cenv fp) (PL Ad s.heap) σ0 H s ∧ s.heap.IsGen a g ∧ s.gens[g]? = some gs ∧
    gs.Goes (model X.prog X.w) A1.in1 (fun n s0 r s1 => r = .ok .next ∧ GEnd_ (gcx X A' sB HB cenv fp) Ad σ0 Z fin (g + 1) n s0 s1) (GYld (gcx X A' sB HB cenv fp) Ad fp tn σ0 Z cons (g + 1)) n (.send .none) (s.setGen g .running)
theorem pin_get {Ad : List Addr} {h : Heap} {Y : Cx} {σ : L2.St} {H : Hp} {s : Shared} (I : Inv Y (PL Ad h) σ H s) {b : Addr} {o : Obj} (hb : b ∈ Ad) (e : h.get? b = some o) : s.heap.get? b = some o ∧ H b = none :=
  let z := I.pin (b, o) (List.mem_append_right _ (mem_pinsAt hb e)); ⟨z.1, z.2.1⟩
theorem gen_next {E : Value → Shared → Prop} {c : γ} {n : Nat} {s : Shared} (hh : A1.handled = none) (hf : A1.frames = some X.stack) (hroom : A1.depth < recursionLimit) (hfun : ∀ c c' h, Z c h → Z c' h → c = c') (ha : a ∈ Ad) (htn : ∀ i h h', tn i h → (∀ b ∈ fp, ∀ o, h.get? b = some o → h'.get? b = some o) → tn i h')
    (h : Sus X A1 A' sB HB cenv fp tn σ0 fin cons Z Ad a g c n s) : wpAny (model X.prog X.w) A1 (pyNext (.ref a)) (fun r s1 =>
      (r = none ∧ ∃ H, Inv (gsl X A1 sB HB cenv fp) (PL Ad s.heap) σ0 H s1 ∧ fin c H) ∨
      ∃ y v H N m, n = m + 1 ∧ r = some v ∧ RelV y v ∧ Inv (gsl X A1 sB HB cenv fp) (PL Ad s.heap) σ0 H s1 ∧ cons c y H N ∧ (∀ b ∈ fp, H b = none) ∧
        ∀ s2 c' H', N c' H' → Z c' s2.heap → Inv (gsl X A1 sB HB cenv fp) (PL Ad s2.heap) σ0 H' s2 → (∀ b ∈ fp, ∀ o, s1.heap.get? b = some o → s2.heap.get? b = some o) → (∀ b ∈ fp, H' b = none) → s2.heap.IsGen a g → s2.gens = s1.gens →
          Sus X A1 A' sB HB cenv fp tn σ0 fin cons Z Ad a g c' m s2) E s := by
  obtain ⟨H, gs, hn, z, I, hg, hgs, hgo⟩ := h
  have hbare : AllBare s.gens := I.bare
  obtain ⟨oa, nm, qn, hoa, hga⟩ := id hg
  refine wpAny_pyNext_genexpQ (P := GEnd_ (gcx X A' sB HB cenv fp) Ad σ0 Z fin (g + 1)) (Y := GYld (gcx X A' sB HB cenv fp) Ad fp tn σ0 Z cons (g + 1)) hh I.nolimit hroom hg hgs hgo (fun v s1 gs' hb hv => ?_) (fun s1 hp h' hk => ?_)
  · obtain ⟨c1, y, H1, N, i, z1, I1, ry, st1, fr1, hG1, q1, kap⟩ := hv
    obtain rfl := hfun _ _ _ z1 z
    have I1' : Inv (gsl X A1 sB HB cenv fp) (PL Ad s.heap) σ0 H1 (s1.setGen g gs') := Inv_gens (Inv_sleep I1 hh hf) (bare_set I1.bare hb)
    obtain ⟨m, rfl⟩ : ∃ m, n = m + 1 := ⟨n - 1, by omega⟩
    refine .inr ⟨y, v, H1, N, m, rfl, rfl, ry, I1', q1, fr1, fun s2 c' H' n' z2 I2 kf fr2 hg2 e2 => ?_⟩
    have J2 : Inv (gcx X A' sB HB cenv fp) (PL Ad s2.heap) σ0 H' s2 := Inv_re I2 I1.ok rfl
    have hsz : g < s1.gens.size := hG1
    have e3 : s2.gens[g]? = some gs' := by
      rw [e2]
      show (s1.gens.setIfInBounds g gs')[g]? = some gs'
      simp [hsz]
    have hG2 : g + 1 ≤ (s2.setGen g .running).gens.size := by
      show g + 1 ≤ (s2.gens.setIfInBounds g .running).size
      rw [Array.size_setIfInBounds, e2]
      show g + 1 ≤ (s1.gens.setIfInBounds g gs').size
      rw [Array.size_setIfInBounds]
      exact hG1
    have st2 : tn i s2.heap := htn _ _ _ st1 kf
    obtain ⟨h0, h1⟩ := kap (s2.setGen g .running) c' H' n' z2 (Inv_gens J2 (bare_set J2.bare rfl)) st2 fr2 hG2
    exact ⟨H', gs', h0, z2, I2, hg2, e3, h1⟩
  · obtain ⟨c1, H1, z1, I1, q1, hG1⟩ := hp
    obtain rfl := hfun _ _ _ z1 z
    have I2 : Inv (gsl X A1 sB HB cenv fp) (PL Ad s.heap) σ0 H1 (s1.setGen g .finished) := Inv_gens (Inv_sleep I1 hh hf) (bare_set I1.bare rfl)
    exact .inl ⟨rfl, H1, I2.kept (t' := s1.toks) hk, q1⟩
end

/-! ### made -/
/-- the names of a generator expression: its own with their places, «.0», captured ones -/
structure GenOk (N : List Str) (sc scope : Scope) (own : List (Str × Nat)) : Prop where
  blk : BlkOk N sc scope own
  co : scope.isCoroutine = false
  cell : ∀ y ∈ scope.names, y.2 ≠ .cell
  dot : scope.names.lookup (".0" : Str) = some NameKind.local
def genC (N : List Str) (sc scope : Scope) (own : List (Str × Nat)) : Bool :=
  blkC N sc scope own && !scope.isCoroutine && (scope.names.all fun y => !decide (y.2 = .cell)) && decide (scope.names.lookup (".0" : Str) = some NameKind.local)
theorem genOk_by {N : List Str} {sc scope : Scope} {own : List (Str × Nat)} (h : genC N sc scope own = true) : GenOk N sc scope own := by
  unfold genC at h
  simp only [Bool.and_eq_true, Bool.not_eq_true', decide_eq_true_eq, List.all_eq_true, decide_eq_false_iff_not] at h
  obtain ⟨⟨⟨h1, h2⟩, h3⟩, h4⟩ := h
  exact ⟨blkOk_by h1, h2, h3, h4⟩
section
variable {X : Cx} {pins : List (Addr × Obj)} {σ : L2.St} {H : Hp} {s : Shared}
theorem gen_start {A1 : Around} {scope : Scope} {own : List (Str × Nat)} {fp : List Addr} {code : Value} {h5 : Heap} {g5 : Array GenState} {tk : Nat} {m5 : Str → Option Value} (I : Inv X pins σ H s) (ok : GenOk X.N X.env.scope scope own) (hN : X.N.Nodup)
    (hfp : ∀ b ∈ fp, FpOk X pins H b ∧ b < s.heap.objs.size) (hh : A1.handled = none) (hf : A1.frames = some X.stack) (kp : ∀ b o, s.heap.get? b = some o → h5.get? b = some o) (hns : h5.Ns s.heap.objs.size m5) (hg : AllBare g5) :
    Inv (gsl X A1 s H (genEnv scope (cloFrom X.env.cells scope.names []) s.heap.objs.size code builtinsNs X.env) fp) [] (wipe σ (own.map (·.2))) H { s with heap := h5, gens := g5, toks := tk } := by
  have hfree : ∀ y ∈ scope.names, y.2 = .free → ∃ c, X.env.cells.lookup y.1 = some c := fun y hy e => by
    rcases ok.blk.free y hy e with k | k
    · exact I.ok.has _ (.inl k)
    · exact I.ok.has _ (.inr k)
  have cm : ∀ {y c}, (cloFrom X.env.cells scope.names []).lookup y = some c → X.env.cells.lookup y = some c := fun {y c} e => by
    rcases cloFrom_mem (PySem.mem_of_lookup e) with hm | ⟨h1, h2⟩
    · cases hm
    · obtain ⟨c1, hc⟩ := hfree _ h1 rfl
      have hc : X.env.cells.lookup y = some c1 := hc
      have e2 : c = c1 := by rw [h2, hc]; rfl
      rw [e2]; exact hc
  have look : ∀ {y}, scope.names.lookup y = some .free → ∃ c, (cloFrom X.env.cells scope.names []).lookup y = some c := fun {y} hl => by
    have hy : (y, NameKind.free) ∈ scope.names := PySem.mem_of_lookup hl
    exact mem_lookup (cloFrom_has (cells := X.env.cells) (acc := []) hy)
  have clt : ∀ {y c}, (cloFrom X.env.cells scope.names []).lookup y = some c → c < s.heap.objs.size := fun {y c} e => by
    obtain ⟨v, z⟩ := I.cell y c (cm e)
    exact z.lt
  refine ⟨⟨I.ok.mod, ok.blk.kind, I.ok.glob, rfl, Nat.le_refl _, fun y z c e1 e2 => I.ok.inj y z c (cm e1) (cm e2), fun y hy => ?_, fun y c z _ => Bool.noConfusion z, fun _ => hh, hf, .inl rfl, fun b hb => ⟨Nat.ne_of_lt (hfp b hb).2, fun y c e => (hfp b hb).1.2.2.2.2.1 y c (cm e)⟩, I.bs,
      Nat.le_trans I.ok.bsz I.sz, fun b o e hb => ?_, fun b hb z => ?_, I.stack, I.stkFree⟩,
    rfl, hg, Un.kept kp, ⟨m5, hns, fun i y av e1 e2 e3 => ?_⟩, fun y c e => ?_, I.hok.fresh (Nat.le_refl _), fun y c e => I.freeC y c (cm e), fun p hp => absurd (show p ∈ ([] : List (Addr × Obj)) ++ [] from hp) (by simp), I.hok.kept kp, by rw [wipe_length]; exact I.len⟩
  · have hy : scope.names.lookup y = some .cell ∨ scope.names.lookup y = some .free := hy
    rcases hy with hy | hy
    · exact absurd rfl (ok.cell _ (PySem.mem_of_lookup hy))
    · exact look hy
  · rcases (hfp b hb).1.2.2.2.1 with z | z
    · exact I.ok.noex b o e z
    · exact absurd (Nat.lt_of_lt_of_le (Heap.lt_size e) (Nat.le_trans I.ok.bsz z)) (Nat.lt_irrefl _)
  · rcases List.mem_cons.mp (I.stkSub b z) with z | z
    · exact (hfp b hb).1.2.1 z
    · exact (hfp b hb).1.2.2.1 z
  · obtain ⟨e2, hne⟩ := wipe_some e2
    have e3 : Vis scope y := e3
    have no : ¬ (scope.names.lookup y = some .local) := fun e => by
      rcases ok.blk.own _ (PySem.mem_of_lookup e) (.inl rfl) with e' | e'
      · obtain ⟨p, hp, hpy⟩ := List.mem_map.mp e'
        have e4 := ok.blk.ix p hp
        have hpy : p.1 = y := hpy
        rw [hpy] at e4
        exact hne (List.mem_map.mpr ⟨p, hp, nodup_ix hN e4 e1⟩)
      · exact e' (List.mem_of_getElem? e1)
    have hfr : scope.names.lookup y = some .free := by
      rcases e3 with k | k | k
      · exact absurd k no
      · exact absurd rfl (ok.cell _ (PySem.mem_of_lookup k))
      · exact k
    obtain ⟨m, hn, hl⟩ := I.loc
    have hvis : Vis X.env.scope y := (ok.blk.free _ (PySem.mem_of_lookup hfr) rfl).elim (fun k => .inr (.inl k)) (fun k => .inr (.inr k))
    obtain ⟨w, r, q⟩ := hl i y av e1 e2 hvis
    obtain ⟨c, h1⟩ := look hfr
    have h2 := cm h1
    refine ⟨w, r, .inr ⟨.inr hfr, c, h1, ?_⟩⟩
    rcases q with ⟨k, _⟩ | ⟨_, c', e', z⟩
    · have k : X.env.scope.names.lookup y = some .local := k
      rcases ok.blk.free _ (PySem.mem_of_lookup hfr) rfl with k' | k' <;> rw [show X.env.scope.names.lookup y = _ from k'] at k <;> cases k
    · rw [h2] at e'; cases e'
      exact z.keeps kp
  · obtain ⟨w, z⟩ := I.cell y c (cm e)
    exact ⟨w, z.keeps kp⟩
end
/-- the walk of the generator over: back to the def -/
theorem gen_back {X : Cx} {pins pl : List (Addr × Obj)} {σ σ' : L2.St} {H H' : Hp} {s s' : Shared} {A1 : Around} {cenv : Env} {fp : List Addr} (I : Inv X pins σ H s) (hfp : ∀ b ∈ fp, FpOk X pins H b) (J : Inv (gsl X A1 s H cenv fp) pl σ' H' s') : Inv X pins σ H' s' :=
  I.call' (ch := fp) J.os J.base J.hok J.bare fun b hb => ⟨(hfp b hb).2.2.2.1, (hfp b hb).2.1, (hfp b hb).2.2.2.2.1, (hfp b hb).2.2.2.2.2⟩
theorem tru_keep {X : Cx} {pins : List (Addr × Obj)} {σ : L2.St} {H : Hp} {s : Shared} {M : Model} {A : Around} {E : Value → Shared → Prop} {x : V} {v : Value} {k : Bool} {Q : Bool → Shared → Prop} (I : Inv X pins σ H s) (rx : RelV x v) (e : TruV X.K x H k)
    (q : ∀ t, Q k { s with toks := t }) (hM : M = model X.prog X.w) : wpAny M A (truthy v) Q E s := by
  subst hM
  have hl := line63
  have hsl : sizeLine = 16777216 := sizeLine_eq
  have q0 : Q k s := q s.toks
  cases x with
  | non =>
    cases rx
    have e' : k = false := e
    subst e'
    exact truthy_none q0
  | bl b =>
    cases rx
    have e' : k = b := e
    subst e'
    exact wpAny_truthy_bool q0
  | int i =>
    obtain ⟨t, rfl⟩ := rx
    have e' : k = (i != 0) := e
    subst e'
    exact PySem.P.truthy_int q0
  | str y =>
    obtain ⟨t, rfl⟩ := rx
    obtain ⟨hy, e'⟩ : y.length ≤ sizeLine ∧ k = ((y.length : Int) != 0) := e
    subst e'
    exact PySem.P.truthy_str (by omega) (q _)
  | byt y =>
    obtain ⟨t, rfl⟩ := rx
    obtain ⟨hy, e'⟩ : y.size ≤ sizeLine ∧ k = ((y.size : Int) != 0) := e
    subst e'
    exact PySem.W.truthy_bytes (by omega) (q _)
  | ref p =>
    cases rx
    have e' : (∃ xs, SqL X.K H p xs ∧ k = !xs.isEmpty) ∨ (∃ xs, SqT X.K H p xs ∧ k = !xs.isEmpty) ∨ ∃ kvs, H p = some (.dK kvs) ∧ k = !kvs.isEmpty := e
    rcases e' with ⟨xs, hx, e'⟩ | ⟨xs, hx, e'⟩ | ⟨kvs, hx, e'⟩
    · subst e'
      obtain ⟨its, r, pl, hz⟩ := I.list hx
      have hlen := r.length
      exact wpAny_truthy_list pl.isList (by simp only [List.size_toArray]; omega) (by rw [isEmpty_of r]; exact q _)
    · subst e'
      obtain ⟨its, r, pl, hz⟩ := I.tuple hx
      have hlen := r.length
      exact truthy_tuple pl (by simp only [List.size_toArray]; omega) (by rw [isEmpty_of r]; exact q _)
    · subst e'
      obtain ⟨hz, hS, vs, r, m⟩ : kvs.length ≤ sizeLine ∧ (p == sysModules) = false ∧ ∃ vs, KV kvs vs ∧ s.heap.DictOf (mixKind X.prog X.w) p vs := I.hok p _ hx
      have hlen : kvs.length = vs.length := Paired.length r
      exact wpAny_truthy_dict hS m (by omega) (by rw [isEmpty_kv r]; exact q _)
  | _ => exact (show False from e).elim

/-- the generator as it has been made at a, its number g: asleep ahead of its first turn -/
structure Made (X : Cx) (pins : List (Addr × Obj)) (σ : L2.St) (H : Hp) (elt tg iter : Expr) (ifs : List Expr) (scope : Scope) (pos : Pos) (own : List (Str × Nat)) (J : It) (a : Addr) (g : Nat) (s5 : Shared)
    (s4 : Shared) (code : Value) (fp : List Addr) (it : Addr) (tn : Nat → Heap → Prop) : Prop where
  inv : Inv X pins σ H s4
  fpo : ∀ b ∈ fp, FpOk X pins H b
  turn : Turn X.prog X.w X.K tg J fp it tn
  tn0 : tn 0 s5.heap
  slp : ∀ A1 : Around, A1.handled = none → A1.frames = some X.stack → Inv (gsl X A1 s4 H (genEnv scope (cloFrom X.env.cells scope.names []) s4.heap.objs.size code builtinsNs X.env) fp) [] (wipe σ (own.map (·.2))) H s5
  isg : s5.heap.IsGen a g
  gen : s5.gens[g]? = some (.fresh (.compStart (gE elt tg iter ifs scope pos) 0 (.ref it) .none (genEnv scope (cloFrom X.env.cells scope.names []) s4.heap.objs.size code builtinsNs X.env)))
  fsz : ∀ b ∈ fp, b < s4.heap.objs.size
  anew : s4.heap.objs.size < a
  alt : a < s5.heap.objs.size
section
variable {X : Cx} {pins : List (Addr × Obj)} {σ : L2.St} {H : Hp} {s : Shared}
theorem gen_made {c P : Addr} {elt tg iter : Expr} {ifs : List Expr} {scope : Scope} {gpos : Pos} {own : List (Str × Nat)} {wi : TI} {RR : It → Hp → Prop} {Q' : Value → Shared → Prop} {k : Nat} (hr : Room k X.A) (TB : GxR.TabB X.base X.mg c P) (hcode : X.env.code = .ref c)
    (ok : GenOk X.N X.env.scope scope own) (hN : X.N.Nodup) (hi : PI X tg iter wi) (hs : ∀ v, genFold iter X.env v = pure v) (I : Inv X pins σ H s) (h : wi σ H fun J H1 => GxR.TabG H1 P ∧ ∀ H2, GxR.Tabbed P H1 H2 → RR J H2)
    (hQ : ∀ J H2 a g s5 s4 code fp it tn, RR J H2 → Made X pins σ H2 elt tg iter ifs scope gpos own J a g s5 s4 code fp it tn → Q' (.ref a) s5) :
    wpAny (model X.prog X.w) X.A (eval (gE elt tg iter ifs scope gpos) X.env) Q' X.xe s := by
  have hfree : ∀ y ∈ scope.names, y.2 = .free → ∃ c, X.env.cells.lookup y.1 = some c := fun y hy e => by
    rcases ok.blk.free y hy e with k | k
    · exact I.ok.has _ (.inl k)
    · exact I.ok.has _ (.inr k)
  refine wpAny_GeneratorExp_make ok.co (closure_ok hfree) ok.cell ok.dot ok.blk.kind (by have := hr.dp; omega) (thn (hi.run pins s σ H _ I h) fun xv s1 hx => thn hx fun itv s2 h2 => ?_) hs
  obtain ⟨it, fp, tn, J, H1, e, I1, T, st2, f2, ⟨ps, hP, ht⟩, q1⟩ := h2
  subst e
  have hPs : s2.heap.get? P = some { cls := .none, data := .fields ps } := I1.hok P _ hP
  have cd : PySem.W.CodeHd s2.heap c P := TB.code.keeps I1.bk
  refine ⟨I1.nolimit, ?_⟩
  have sz : ∀ b ∈ fp, b < s2.heap.objs.size := fun b hb => by
    obtain ⟨o, e, _⟩ := T.obj _ _ st2 b hb
    exact Heap.lt_size e
  have nfP : ∀ b ∈ fp, b ≠ P := fun b hb z => by
    have := (f2 b hb).1
    rw [z, hP] at this
    cases this
  have cont : ∀ (code : Value) (H2 : Hp) (s3 : Shared), Inv X pins σ H2 s3 → GxR.Tabbed P H1 H2 → (∀ b ∈ fp, ∀ o, s2.heap.get? b = some o → s3.heap.get? b = some o) → (∀ b ∈ fp, b < s3.heap.objs.size) →
      wpAny (model X.prog X.w) X.A (builtinsFor X.env.globals X.env.builtins) (fun bi s₄ =>
        ∀ h', h'.Ns s₄.heap.objs.size (fun y => if y = ".0" then some (.ref it) else none) → Heap.SameBut s₄.heap.objs.size (s₄.heap.push { cls := .type "frame", data := .dict #[] }) h' →
          Q' (.ref h'.objs.size) { s₄ with
            gens := s₄.gens.push (.fresh (.compStart (gE elt tg iter ifs scope gpos) 0 (.ref it) .none (genEnv scope (cloFrom X.env.cells scope.names []) s₄.heap.objs.size code bi X.env))),
            toks := s₄.toks + 1 + 1 + 1,
            heap := h'.push { cls := .type "generator", data := .fields #[.int s₄.gens.size 0, .str "<genexpr>" (s₄.toks + 1), .str (X.env.qual ++ "<genexpr>") (s₄.toks + 1 + 1)] } }) X.xe s3 := by
    intro code H2 s3 I3 tb kf szf
    obtain ⟨bm, ob, e1, e2, e3, e4, e5, e6, e7, e8⟩ := TB.bm
    refine wpAny_builtinsFor (m := X.mg) (by rw [I1.ok.glob]; exact I3.mod.glob.keeps I3.bk) e1 e2 (I3.bk _ _ e5) e6 e7 e8 fun h' hn' hs' => ?_
    have hsz : h'.objs.size = s3.heap.objs.size + 1 := by rw [hs'.1, Heap.size_push]
    have kp0 : ∀ b o, s3.heap.get? b = some o → h'.get? b = some o := fun b o e => hs'.extBut b o (Nat.ne_of_lt (Heap.lt_size e)) (Heap.get?_push_of_some _ e)
    have f3 : ∀ b ∈ fp, FpOk X pins H2 b := fun b hb => ⟨by rw [tb.2 b (nfP b hb)]; exact (f2 b hb).1, (f2 b hb).2⟩
    refine hQ J H2 h'.objs.size s3.gens.size _ s3 code fp it tn (q1 H2 tb) ⟨I3, f3, T, T.keep _ _ _ st2 fun b hb o e => Heap.get?_push_of_some _ (kp0 b o (kf b hb o e)), fun A1 h1 h2 => ?_, ⟨_, _, _, Heap.get?_push_size _ rfl, rfl, rfl, rfl⟩, Array.getElem?_push_size .., szf, by rw [hsz]; exact Nat.lt_succ_self _,
      by show h'.objs.size < (h'.push _).objs.size; rw [Heap.size_push]; exact Nat.lt_succ_self _⟩
    exact gen_start I3 ok hN (fun b hb => ⟨f3 b hb, szf b hb⟩) h1 h2 (fun b o e => Heap.get?_push_of_some _ (kp0 b o e)) (hn'.push _) (I3.bare.push rfl)
  cases hf : codeAmong gpos ps.toList with
  | none =>
    refine wpAny_genexprCodeX hcode (cd.code hPs ht) (cd.tab hPs) hf fun c' h' tk hx hge hlt hco' _ htab' _ => ?_
    obtain ⟨o1, vs, f1, tf, fl, tg', inF, tx, tt', op, _, _, _, _, _, _, _, _, _, htr, _⟩ := hco'
    have J3 := GxR.inv_tab (more := #[rawInt gpos.line, rawInt gpos.col, .ref c']) (h' := h') (g' := s2.gens) (d' := s2.drawn) (t' := tk) I1 hP (fun b u hb e => hx b u hb e) htab'.2 I1.bare
    refine cont _ _ _ J3 ⟨⟨_, upd_same, htr⟩, fun b hb => upd_ne hb⟩ (fun b hb o e => hx b o (nfP b hb) e) fun b hb => Nat.lt_of_lt_of_le (sz b hb) (Nat.le_trans hge (Nat.le_of_lt hlt))
  | some cv =>
    refine wpAny_genexprCode_hit hcode (cd.code hPs ht) hf ?_
    exact cont cv H1 s2 I1 ⟨⟨ps, hP, ht⟩, fun _ _ => rfl⟩ (fun b hb o e => e) sz
end

/-! ### all, any -/
/-- the truth of each value decides: where it is stop, the answer is at hand -/
def cTru (K : PySem.W.Frag) (stop : Bool) (QX : Hp → Prop) : Unit → V → Hp → (Unit → Hp → Prop) → Prop := fun _ y H N => ∃ k, TruV K y H k ∧ if k = stop then QX H else N () H
section
variable {X : Cx} {A' : Around} {sB : Shared} {HB : Hp} {cenv : Env} {fp : List Addr} {tn : Nat → Heap → Prop} {σ0 : L2.St} {a : Addr} {g : Nat} {QE QX : Hp → Prop} {R : Result → Shared → Prop}
theorem sus_tru {n : Nat} {s1 : Shared} {t : Nat} {H : Hp} {N : Unit → Hp → Prop} {stop : Bool} {A1 : Around}
    (kap : ∀ s2 c' H', N c' H' → (fun _ _ => True : Unit → Heap → Prop) c' s2.heap → Inv (gsl X A1 sB HB cenv fp) (PL [a] s2.heap) σ0 H' s2 → (∀ b ∈ fp, ∀ o, s1.heap.get? b = some o → s2.heap.get? b = some o) → (∀ b ∈ fp, H' b = none) → s2.heap.IsGen a g → s2.gens = s1.gens →
      Sus X A1 A' sB HB cenv fp tn σ0 (fun _ => QE) (cTru X.K stop QX) (fun _ _ => True) [a] a g c' n s2)
    {h0 : Heap} (I : Inv (gsl X A1 sB HB cenv fp) (PL [a] h0) σ0 H s1) (hg : h0.IsGen a g) (fr : ∀ b ∈ fp, H b = none) (nn : N () H) :
    Sus X A1 A' sB HB cenv fp tn σ0 (fun _ => QE) (cTru X.K stop QX) (fun _ _ => True) [a] a g () n { s1 with toks := t } := by
  obtain ⟨o, nm, qn, ho, r⟩ := id hg
  have ho1 := (pin_get I (by simp) ho).1
  refine kap _ () H nn trivial ?_ (fun b _ o e => e) fr ⟨o, nm, qn, ho1, r⟩ rfl
  refine (I.tok t).pins_of fun p hp => ?_
  obtain ⟨hb, e⟩ := of_pinsAt hp
  have hb' : p.1 = a := by simpa using hb
  refine I.pin p (List.mem_append_right _ ?_)
  have e1 : s1.heap.get? a = some p.2 := by rw [← hb']; exact e
  rw [ho1] at e1
  cases e1
  have := mem_pinsAt (fp := [a]) (by simp) ho
  rw [show p = (a, p.2) from by rw [← hb']]
  exact this
theorem all_run (hh : X.A.in1.handled = none) (hf : X.A.in1.frames = some X.stack) (hroom : X.A.in1.depth < recursionLimit) (htn : ∀ i h h', tn i h → (∀ b ∈ fp, ∀ o, h.get? b = some o → h'.get? b = some o) → tn i h') : ∀ (n : Nat) (s : Shared),
    Sus X X.A.in1 A' sB HB cenv fp tn σ0 (fun _ => QE) (cTru X.K false QX) (fun _ _ => True) [a] a g () n s →
    (∀ s' H' pl, Inv (gsl X X.A.in1 sB HB cenv fp) pl σ0 H' s' → QE H' → R (.ok (.ret (.bool true))) s') → (∀ s' H' pl, Inv (gsl X X.A.in1 sB HB cenv fp) pl σ0 H' s' → QX H' → R (.ok (.ret (.bool false))) s') →
    codeAny (model X.prog X.w) X.A (.builtin "all.loop" ⟨[.ref a], []⟩) R s := by
  intro n
  induction n with
  | zero =>
    intro s hs _ _
    obtain ⟨_, _, h0, _⟩ := hs
    exact absurd h0 (Nat.lt_irrefl _)
  | succ n ih =>
    intro s hs hE hX
    obtain ⟨_, _, _, _, _, hg, _⟩ := id hs
    refine codeAny_builtin F.entry_all_loop ?_
    rw [Around.under_plainId F.plain_all_loop _]
    show wpAny _ X.A.in1 (pyNext (.ref a) >>= _) _ _ s
    refine wpAny_bind (wpAny_mono (gen_next (E := fun _ _ => False) hh hf hroom (fun _ _ _ _ _ => rfl) (by simp) htn hs) (fun r s1 hr => ?_) fun _ _ e => e.elim)
    rcases hr with ⟨rfl, H1, I1, q1⟩ | ⟨y, v, H1, N, m, hm, rfl, ry, I1, ⟨k, tk, q1⟩, fr, kap⟩
    · exact wpAny_bind (wpAny_rule (wpAny_pure (hE s1 H1 _ I1 q1)))
    · obtain rfl : n = m := by omega
      refine wpAny_bind (wpAny_holding (tru_keep I1 ry tk (fun t => wpAny_bind (wpAny_letGo ?_)) rfl))
      cases k with
      | true =>
        rw [if_neg (by decide)] at q1
        simp only [if_true]
        exact wpAny_pure ⟨plainId_quiet F.plain_all_loop _, ih _ (sus_tru kap I1 hg fr q1) hE hX⟩
      | false =>
        rw [if_pos rfl] at q1
        simp only [Bool.false_eq_true, if_false]
        exact wpAny_bind (wpAny_rule (wpAny_pure (hX _ H1 _ (I1.tok t) q1)))
theorem any_run (hh : X.A.in1.handled = none) (hf : X.A.in1.frames = some X.stack) (hroom : X.A.in1.depth < recursionLimit) (htn : ∀ i h h', tn i h → (∀ b ∈ fp, ∀ o, h.get? b = some o → h'.get? b = some o) → tn i h') : ∀ (n : Nat) (s : Shared),
    Sus X X.A.in1 A' sB HB cenv fp tn σ0 (fun _ => QE) (cTru X.K true QX) (fun _ _ => True) [a] a g () n s →
    (∀ s' H' pl, Inv (gsl X X.A.in1 sB HB cenv fp) pl σ0 H' s' → QE H' → R (.ok (.ret (.bool false))) s') → (∀ s' H' pl, Inv (gsl X X.A.in1 sB HB cenv fp) pl σ0 H' s' → QX H' → R (.ok (.ret (.bool true))) s') →
    codeAny (model X.prog X.w) X.A (.builtin "any.loop" ⟨[.ref a], []⟩) R s := by
  intro n
  induction n with
  | zero =>
    intro s hs _ _
    obtain ⟨_, _, h0, _⟩ := hs
    exact absurd h0 (Nat.lt_irrefl _)
  | succ n ih =>
    intro s hs hE hX
    obtain ⟨_, _, _, _, _, hg, _⟩ := id hs
    refine codeAny_builtin F.entry_any_loop ?_
    rw [Around.under_plainId F.plain_any_loop _]
    show wpAny _ X.A.in1 (pyNext (.ref a) >>= _) _ _ s
    refine wpAny_bind (wpAny_mono (gen_next (E := fun _ _ => False) hh hf hroom (fun _ _ _ _ _ => rfl) (by simp) htn hs) (fun r s1 hr => ?_) fun _ _ e => e.elim)
    rcases hr with ⟨rfl, H1, I1, q1⟩ | ⟨y, v, H1, N, m, hm, rfl, ry, I1, ⟨k, tk, q1⟩, fr, kap⟩
    · exact wpAny_bind (wpAny_rule (wpAny_pure (hE s1 H1 _ I1 q1)))
    · obtain rfl : n = m := by omega
      refine wpAny_bind (wpAny_holding (tru_keep I1 ry tk (fun t => wpAny_bind (wpAny_letGo ?_)) rfl))
      cases k with
      | false =>
        rw [if_neg (by decide)] at q1
        simp only [Bool.false_eq_true, if_false]
        exact wpAny_pure ⟨plainId_quiet F.plain_any_loop _, ih _ (sus_tru kap I1 hg fr q1) hE hX⟩
      | true =>
        rw [if_pos rfl] at q1
        simp only [if_true]
        exact wpAny_bind (wpAny_rule (wpAny_pure (hX _ H1 _ (I1.tok t) q1)))
end
/-- all(elt for tg in iter if ..) (stop: false), any(..) (stop: true): W by the turn and a measure, N what a turn is to reach -/
def tTruG (K : PySem.W.Frag) (P : Addr) (stop : Bool) (wi : TI) (g : TG) (tt : TT) (te : TE) (vs : List Nat) : TE := fun σ H Q => wi σ H fun J H1 => GxR.TabG H1 P ∧ ∀ H2, GxR.Tabbed P H1 H2 → ∃ W : Nat → Nat → Hp → Prop, (∃ m, W 0 m H2) ∧ ∀ i m H, W i m H →
  (J.stop i H ∧ Q (.bl (!stop)) H) ∨ (J.go i H ∧ ∃ N : Hp → Prop, (∀ H', N H' → ∃ m', m' < m ∧ W (i + 1) m' H') ∧ ∀ x H', J.yld i H x H' → g x (wipe σ vs) H' fun σ2 H2 => wipe σ2 vs = wipe σ vs ∧ tt σ2 H2 fun b H3 =>
    if b = true then te σ2 H3 fun y H4 => ∃ k, TruV K y H4 k ∧ (if k = stop then Q (.bl stop) H4 else N H4) else N H3)
theorem room_gen {k : Nat} {A : Around} {c : Code} (hr : Room (k + 1) A) (hw : c.weight = 1) (hu : c.cUnits = 3) (hg : c.guards = []) : Room k (A.in1.in1.over c []) := by
  refine ⟨hr.hd, ?_, ?_⟩
  · have := hr.dp
    show A.depth + 0 + c.weight + 3 * k + 5 < _
    omega
  · have := hr.un
    show A.units + 1 + 1 + 0 + c.cUnits + 16 * k + 200 < _
    omega
section
variable {X : Cx} {c P : Addr} {elt tg iter : Expr} {ifs : List Expr} {scope : Scope} {gpos p pos : Pos} {own : List (Str × Nat)} {wi : TI} {gT : TG} {tt : TT} {te : TE} {k : Nat}
theorem sus_made {pins : List (Addr × Obj)} {σ : L2.St} {H : Hp} {J : It} {a : Addr} {g : Nat} {s5 s4 : Shared} {code : Value} {fp : List Addr} {it : Addr} {tn : Nat → Heap → Prop} {QE QX : Hp → Prop} {stop : Bool}
    (hr : Room (k + 1) X.A) (ok : GenOk X.N X.env.scope scope own) (hg : ∀ (A : Around) (s : Shared) (H : Hp) (C : Addr) (code : Value) (cl : List (Str × Addr)) (fp : List Addr), Room k A → PG (gcx X A s H (genEnv scope cl C code builtinsNs X.env) fp) tg gT)
    (ht : ∀ (A : Around) (s : Shared) (H : Hp) (C : Addr) (code : Value) (cl : List (Str × Addr)) (fp : List Addr), Room k A → PTs (gcx X A s H (genEnv scope cl C code builtinsNs X.env) fp) ifs tt)
    (he : ∀ (A : Around) (s : Shared) (H : Hp) (C : Addr) (code : Value) (cl : List (Str × Addr)) (fp : List Addr), Room k A → PE (gcx X A s H (genEnv scope cl C code builtinsNs X.env) fp) elt te)
    (M : Made X pins σ H elt tg iter ifs scope gpos own J a g s5 s4 code fp it tn) {W : Nat → Nat → Hp → Prop} {m0 : Nat} (w0 : W 0 m0 H)
    (turn : ∀ i m H, W i m H → (J.stop i H ∧ QE H) ∨ (J.go i H ∧ ∃ N : Hp → Prop, (∀ H', N H' → ∃ m', m' < m ∧ W (i + 1) m' H') ∧ ∀ x H', J.yld i H x H' → gT x (wipe σ (own.map (·.2))) H' fun σ2 H2 => wipe σ2 (own.map (·.2)) = wipe σ (own.map (·.2)) ∧ tt σ2 H2 fun b H3 =>
      if b = true then te σ2 H3 fun y H4 => ∃ k, TruV X.K y H4 k ∧ (if k = stop then QX H4 else N H4) else N H3)) :
    ∃ A' cenv, Sus X X.A.in1 A' s4 H cenv fp tn (wipe σ (own.map (·.2))) (fun _ => QE) (cTru X.K stop QX) (fun _ _ => True) [a] a g () (m0 + 1) s5 := by
  have hh : X.A.in1.handled = none := hr.hd
  have hf : X.A.in1.frames = some X.stack := M.inv.ok.frames
  obtain ⟨oa, nm, qn, hoa, hoc, hod, hos⟩ := id M.isg
  have I5 := M.slp X.A.in1 hh hf
  have haf : a ∉ fp := fun hb => by
    exact absurd (Nat.lt_trans (M.fsz a hb) M.anew) (Nat.lt_irrefl _)
  have I6 : Inv (gsl X X.A.in1 s4 H (genEnv scope (cloFrom X.env.cells scope.names []) s4.heap.objs.size code builtinsNs X.env) fp) (PL [a] s5.heap) (wipe σ (own.map (·.2))) H s5 := I5.pins_of fun q hq => by
    obtain ⟨hb, e⟩ := of_pinsAt hq
    have hb' : q.1 = a := by simpa using hb
    rw [hb', hoa] at e
    refine ⟨by rw [hb', hoa]; exact e, by rw [hb']; exact M.inv.hok.fresh (Nat.le_of_lt M.anew), by rw [hb']; exact Nat.ne_of_gt M.anew, ?_, fun v z => ?_⟩
    · rw [hb']
      intro hm
      rcases List.mem_cons.mp (M.inv.stkSub a hm) with z | z
      · have := M.inv.lt
        rw [← z] at this
        exact absurd (Nat.lt_trans this M.anew) (Nat.lt_irrefl _)
      · exact M.inv.nofs (Nat.le_of_lt M.anew) z
    · have e' : oa = q.2 := Option.some.inj e
      rw [← e', hod] at z
      cases z
  have hA' : (X.A.in1.in1.over (.compLoop (gE elt tg iter ifs scope gpos) 0 (.ref it) .none (genEnv scope (cloFrom X.env.cells scope.names []) s4.heap.objs.size code builtinsNs X.env)) []).frames = some (genEnv scope (cloFrom X.env.cells scope.names []) s4.heap.objs.size code builtinsNs X.env :: X.stack) := by
    show pushEnvs [genEnv scope (cloFrom X.env.cells scope.names []) s4.heap.objs.size code builtinsNs X.env] (pushEnvs [] X.A.frames) = _
    rw [M.inv.ok.frames]
    rfl
  have rG : Room k (X.A.in1.in1.over (.compLoop (gE elt tg iter ifs scope gpos) 0 (.ref it) .none (genEnv scope (cloFrom X.env.cells scope.names []) s4.heap.objs.size code builtinsNs X.env)) []) := room_gen hr rfl rfl rfl
  have J6 := Inv_wake (A' := X.A.in1.in1.over (.compLoop (gE elt tg iter ifs scope gpos) 0 (.ref it) .none (genEnv scope (cloFrom X.env.cells scope.names []) s4.heap.objs.size code builtinsNs X.env)) []) I6 hh hA' rfl
  have hfp0 : ∀ b ∈ fp, H b = none := fun b hb => (M.fpo b hb).1
  have hsz : g + 1 ≤ s5.gens.size := (Array.getElem?_eq_some_iff.mp M.gen).1
  refine ⟨X.A.in1.in1.over (.compLoop (gE elt tg iter ifs scope gpos) 0 (.ref it) .none (genEnv scope (cloFrom X.env.cells scope.names []) s4.heap.objs.size code builtinsNs X.env)) [], _, H, _, Nat.succ_pos _, trivial, I6, M.isg, M.gen, rfl, ?_⟩
  refine seg_genS (γ := Unit) (s0 := s5.setGen g .running) (s := s5.setGen g .running) (G := g + 1) (Ad := [a]) (Z := fun _ _ => True) (fin := fun _ => QE) (cons := cTru X.K stop QX) (W := fun _ => W) (σ0 := wipe σ (own.map (·.2))) (vs := own.map (·.2)) (i := 0) (H := H) (c := ()) (m := m0) rfl (fun _ _ z => z) rfl rfl rfl ok.co M.turn (fun b hb => by rw [List.mem_singleton.mp hb]; exact haf) (hg _ _ _ _ _ _ _ rG) (ht _ _ _ _ _ _ _ rG) (he _ _ _ _ _ _ _ rG)
    (fun _ i m H w => ?_) (fun σ2 e => ?_) (Nat.lt_succ_self _) w0 trivial (Inv_gens J6 (bare_set J6.bare rfl)) M.tn0 hfp0 (by
      show g + 1 ≤ (s5.gens.setIfInBounds g .running).size
      rw [Array.size_setIfInBounds]; exact hsz)
  · rcases turn i m H w with ⟨h1, h2⟩ | ⟨h1, N, h2, h3⟩
    · exact .inl ⟨h1, h2⟩
    · exact .inr ⟨h1, fun _ => N, fun _ H' n => h2 H' n, h3⟩
  · rw [wipe_length, ← wipe_length σ2 (own.map (·.2)), e, wipe_length]
end

section
variable {X : Cx} {c P : Addr} {elt tg iter : Expr} {ifs : List Expr} {scope : Scope} {gpos p pos : Pos} {own : List (Str × Nat)} {wi : TI} {gT : TG} {tt : TT} {te : TE} {k : Nat}
theorem pe_allG (hr : Room (k + 1) X.A) (hgl : Gl X "all") (hm : X.mg "all" = none) (hb : bootBuiltins "all" = some (.builtin "all")) (TB : GxR.TabB X.base X.mg c P) (hcode : X.env.code = .ref c) (hN : X.N.Nodup) (ok : GenOk X.N X.env.scope scope own) (hi : PI X tg iter wi)
    (hg : ∀ (A : Around) (s : Shared) (H : Hp) (C : Addr) (code : Value) (cl : List (Str × Addr)) (fp : List Addr), Room k A → PG (gcx X A s H (genEnv scope cl C code builtinsNs X.env) fp) tg gT)
    (ht : ∀ (A : Around) (s : Shared) (H : Hp) (C : Addr) (code : Value) (cl : List (Str × Addr)) (fp : List Addr), Room k A → PTs (gcx X A s H (genEnv scope cl C code builtinsNs X.env) fp) ifs tt)
    (he : ∀ (A : Around) (s : Shared) (H : Hp) (C : Addr) (code : Value) (cl : List (Str × Addr)) (fp : List Addr), Room k A → PE (gcx X A s H (genEnv scope cl C code builtinsNs X.env) fp) elt te)
    (hs : ∀ v, genFold iter X.env v = pure v := by intro _; rfl)
    (hse : starEach [gE elt tg iter ifs scope gpos] X.env = (false, eval (gE elt tg iter ifs scope gpos) X.env) :: starEach [] X.env := by rfl) :
    PE X (.Call (.Name "all" p) [gE elt tg iter ifs scope gpos] [] pos) (tTruG X.K P false wi gT tt te (own.map (·.2))) := by
  refine ⟨fun pins s σ H Q I h => ?_⟩
  refine wpAny_Call_Name_kw (ld_blt I hgl hm hb ?_)
  refine PyProof.Rows.callWith_builtin1 ?_ hse (by rfl)
  rw [hse]
  show wpAny _ _ (spliced ((false, eval (gE elt tg iter ifs scope gpos) X.env) :: backTo pos (starEach [] X.env))) _ _ s
  refine Calls.spliced_cons (gen_made hr TB hcode ok hN hi hs I h fun J H2 a g s5 s4 code fp it tn hW M => ?_)
  refine Calls.spliced_nil ?_
  obtain ⟨W, ⟨m0, w0⟩, turn⟩ := hW
  obtain ⟨A', cenv, su⟩ := sus_made (QE := Q (.bl true)) (QX := Q (.bl false)) (stop := false) hr ok hg ht he M w0 turn
  have hh : X.A.in1.handled = none := hr.hd
  have hf : X.A.in1.frames = some X.stack := M.inv.ok.frames
  have hroom : X.A.in1.depth < recursionLimit := by
    have := hr.dp
    show X.A.depth + 0 < _
    omega
  refine call_function_tree F.kind_all F.plain_all F.entry_all (F.args_all1 _) ?_
  unfold Builtin.«all»
  refine wpAny_bind (m := oneArg "all" _) (wpAny_pure ?_)
  refine wpAny_bind (wpAny_pyIter_gen M.isg (wpAny_pure ⟨plainId_quiet F.plain_all_loop _, all_run hh hf hroom (fun i h h' => M.turn.keep i h h') _ _ su (fun s' H' pl J' q => ?_) fun s' H' pl J' q => ?_⟩))
  · exact ⟨.bl true, H', gen_back M.inv M.fpo J', rfl, q⟩
  · exact ⟨.bl false, H', gen_back M.inv M.fpo J', rfl, q⟩
theorem pe_anyG (hr : Room (k + 1) X.A) (hgl : Gl X "any") (hm : X.mg "any" = none) (TB : GxR.TabB X.base X.mg c P) (hcode : X.env.code = .ref c) (hN : X.N.Nodup) (ok : GenOk X.N X.env.scope scope own) (hi : PI X tg iter wi)
    (hg : ∀ (A : Around) (s : Shared) (H : Hp) (C : Addr) (code : Value) (cl : List (Str × Addr)) (fp : List Addr), Room k A → PG (gcx X A s H (genEnv scope cl C code builtinsNs X.env) fp) tg gT)
    (ht : ∀ (A : Around) (s : Shared) (H : Hp) (C : Addr) (code : Value) (cl : List (Str × Addr)) (fp : List Addr), Room k A → PTs (gcx X A s H (genEnv scope cl C code builtinsNs X.env) fp) ifs tt)
    (he : ∀ (A : Around) (s : Shared) (H : Hp) (C : Addr) (code : Value) (cl : List (Str × Addr)) (fp : List Addr), Room k A → PE (gcx X A s H (genEnv scope cl C code builtinsNs X.env) fp) elt te)
    (hs : ∀ v, genFold iter X.env v = pure v := by intro _; rfl)
    (hse : starEach [gE elt tg iter ifs scope gpos] X.env = (false, eval (gE elt tg iter ifs scope gpos) X.env) :: starEach [] X.env := by rfl) :
    PE X (.Call (.Name "any" p) [gE elt tg iter ifs scope gpos] [] pos) (tTruG X.K P true wi gT tt te (own.map (·.2))) := by
  refine ⟨fun pins s σ H Q I h => ?_⟩
  refine wpAny_Call_Name_kw (ld_blt I hgl hm boot_any ?_)
  refine PyProof.Rows.callWith_builtin1 ?_ hse (by rfl)
  rw [hse]
  show wpAny _ _ (spliced ((false, eval (gE elt tg iter ifs scope gpos) X.env) :: backTo pos (starEach [] X.env))) _ _ s
  refine Calls.spliced_cons (gen_made hr TB hcode ok hN hi hs I h fun J H2 a g s5 s4 code fp it tn hW M => ?_)
  refine Calls.spliced_nil ?_
  obtain ⟨W, ⟨m0, w0⟩, turn⟩ := hW
  obtain ⟨A', cenv, su⟩ := sus_made (QE := Q (.bl false)) (QX := Q (.bl true)) (stop := true) hr ok hg ht he M w0 turn
  have hh : X.A.in1.handled = none := hr.hd
  have hf : X.A.in1.frames = some X.stack := M.inv.ok.frames
  have hroom : X.A.in1.depth < recursionLimit := by
    have := hr.dp
    show X.A.depth + 0 < _
    omega
  refine call_function_tree F.kind_any F.plain_any F.entry_any (F.args_any1 _) ?_
  unfold Builtin.«any»
  refine wpAny_bind (m := oneArg "any" _) (wpAny_pure ?_)
  refine wpAny_bind (wpAny_pyIter_gen M.isg (wpAny_pure ⟨plainId_quiet F.plain_any_loop _, any_run hh hf hroom (fun i h h' => M.turn.keep i h h') _ _ su (fun s' H' pl J' q => ?_) fun s' H' pl J' q => ?_⟩))
  · exact ⟨.bl false, H', gen_back M.inv M.fpo J', rfl, q⟩
  · exact ⟨.bl true, H', gen_back M.inv M.fpo J', rfl, q⟩
end
end D7
/-! own exceptions whose __init__ says super().__init__(f'..') and keeps its arguments -/
namespace D7X
open PySem PySem.W PySem.Calls PyProof.Rows PySem.HandSPX
/-- the first statement of such an __init__ -/
abbrev sSup (fstr : Expr) (p0 p1 p2 p3 p4 : Pos) : Stmt := .Expr (.Call (.Attribute (.Call (.Name "super" p0) [] [] p1) "__init__" p2) [fstr] [] p3) p4
abbrev sKeep (f x : Str) (q1 q2 q3 q4 : Pos) : Stmt := .Assign [.Attribute (.Name "self" q1) f q2] (.Name x q3) q4
structure ExK (prog : Program) (K : Frag) (C fI cc cda : Addr) (qual : Str) (args : Arguments) (body : List Stmt) (scope : Scope) : Prop where
  cls : ∃ nm q N bs bm sn sub ab col dd k0 k1 k2 k3 k5, K.lookup C = some (excClassObj nm q C N bs bm true sn sub ab col dd k0 k1 k2 k3 k5 "ValueError.__new__") ∧ refsVE bm = true
  sa : findIn K (.ref C) "__setattr__" = some (some (.builtin "object.__setattr__"))
  iC : findIn K (.ref C) "__init__" = some (some (.ref fI))
  tC : typeIn K (.ref fI) = some (.type "function")
  sup : ks_superIn K C C "__init__" = some (some (.builtin "ValueError.__init__"))
  subV : subIn K (.ref C) (.type "ValueError") = some true
  subS : mroIn K C (.ref C) = some true
  noO : nsIn K cStatics "thirdparty.any" = some none
  cell : ∃ cl cld csl, K.lookup cc = some ⟨cl, cld, .cell (some (.ref C)), csl⟩
  code : ∃ ccl cdd vs ccs file tf, K.lookup cda = some ⟨ccl, cdd, .fields vs, ccs⟩ ∧ vs[2]? = some (.str file tf) ∧ ((prog.main.file : Str) == file) = true
  fn : ∃ oc od kV doc pm an ct osl, K.lookup fI = some ⟨oc, od, .func (fnX "__init__" qual args body scope [("__class__", cc)] .none kV doc pm an (.ref cda) ct), osl⟩ ∧ codeIn K (.ref cda) qual = true
section
variable {prog : Program} {w : World} {A : Around} {E : Value → Shared → Prop} {R : Result → Shared → Prop} {K : Frag} {C fI cc cda : Addr} {qual : Str} {args : Arguments} {body : List Stmt} {scope : Scope} {mg mb : Str → Option Value}
theorem call_mw {h : Heap} {g : Array GenState} {d : Drawn} {t : Nat} {os : OsState} {u e t0 : Addr} {rest : List Value} {Q : Value → Shared → Prop} (T : ExK prog K C fI cc cda qual args body scope) (X : K.In h) (he : h.get? e = some (excO C t0)) (hu : h.get? u = some (kxs_mw "ValueError.__init__" e)) (hz : rest.length ≤ sizeLine)
    (hq : ∀ h' t1, (∀ b o, b ≠ e → h.get? b = some o → h'.get? b = some o) → h'.get? e = some (excO C t1) → Q .none ⟨h', g, d, t, os⟩) : wpAny (model prog w) A (call (.ref u) rest) Q E ⟨h, g, d, t, os⟩ := by
  obtain ⟨nm, q, N, bs, bm, sn, sub, ab, col, dd, k0, k1, k2, k3, k5, hC, hbm⟩ := T.cls
  refine wpAny_call (codeAny_of_tree ?_)
  show wpAny _ A.in1 (callAny (.ref u) ⟨rest, []⟩) _ _ _
  simp only [callAny]
  refine wpAny_bind (wpAny_load hu ?_)
  simp only [kxs_mw, show (Value.type "method-wrapper" == Value.type "method" || Value.type "method-wrapper" == Value.type "builtin_function_or_method" || Value.type "method-wrapper" == Value.type "method-wrapper") = true by decide, if_true]
  refine KFB.if_so (by decide) ?_
  refine wpAny_bind (check_bound_init F.excBase_ValueError.toExcCallFacts (X _ _ hC) he rfl ?_)
  refine wpAny_bind (wpAny_pure (wpAny_pure ?_))
  refine ⟨plainId_quiet F.excBase_ValueError.init.plain _, codeAny_builtin F.excBase_ValueError.initEntry ?_⟩
  exact exc_init_tree (cls := .ref C) (t0 := t0) (dv := none) (c2 := .none) (c3 := .none) (b4 := .bool false) he hz fun h' k e' _ => hq h' _ k e'
/-- super().__init__(fstr) -/
theorem run_sup {h : Heap} {g : Array GenState} {d : Drawn} {t : Nat} {os : OsState} {L x t0 : Addr} {fstr : Expr} {p0 p1 p2 p3 p4 : Pos} {m : Str → Option Value} {ar : Arg} {Q : Flow → Shared → Prop} (T : ExK prog K C fI cc cda qual args body scope)
    (htop : (prog.main.scope.names.lookup ("super" : Str)).isSome = false) (hms : mg "super" = none) (hmb : mb "super" = some (.type "super"))
    (X : K.In h) (hg : h.Ns mainGlobals mg) (hb : h.Ns builtinsNs mb) (hx : h.get? x = some (excO C t0)) (hL : h.Ns L m) (hself : m "self" = some (.ref x)) (hks : scope.names.lookup ("super" : Str) = some .globalImplicit) (hkc : scope.names.lookup ("__class__" : Str) = some .free)
    (hka : scope.names.lookup ("self" : Str) = some .local) (hk : scope.kind = .function) (har : (args.posonlyargs ++ args.args).head? = some ar) (har2 : ar.arg = "self")
    (hF : ∀ h1 t1, (∀ b o, h.get? b = some o → h1.get? b = some o) → wpAny (model prog w) A (eval fstr (ksEnv qual scope L fI (.ref cda) cc)) (fun u s2 => ∃ z tk t2, u = .str z tk ∧ s2 = ⟨h1, g, d, t2, os⟩) E ⟨h1, g, d, t1, os⟩)
    (hstar : starEach [fstr] (ksEnv qual scope L fI (.ref cda) cc) = (false, eval fstr (ksEnv qual scope L fI (.ref cda) cc)) :: starEach [] (ksEnv qual scope L fI (.ref cda) cc))
    (hcall : ∀ env : Env, eval (.Call (.Attribute (.Call (.Name "super" p0) [] [] p1) "__init__" p2) [fstr] [] p3) env = (do
      let ov ← attributeBase (.Call (.Name "super" p0) [] [] p1) "__init__" env (eval (.Call (.Name "super" p0) [] [] p1) env)
      standAt p2.atName
      let (f, first) ← holding [ov] (getMethod ov "__init__" (L2.plainOf (.Call (.Name "super" p0) [] [] p1) env))
      callWith p3 f first (backTo p3 (starEach [fstr] env)) []))
    (hq : ∀ h' t' t1, (∀ b o, b ≠ x → h.get? b = some o → h'.get? b = some o) → h'.get? x = some (excO C t1) → Q .next ⟨h', g, d, t', os⟩) :
    _root_.PySem.wpAt (model prog w) A (.func body (ksEnv qual scope L fI (.ref cda) cc)) (exec (sSup fstr p0 p1 p2 p3 p4) (ksEnv qual scope L fI (.ref cda) cc)) Q E ⟨h, g, d, t, os⟩ := by
  obtain ⟨nm, q, N, bs, bm, sn, sub, ab, col, dd, k0, k1, k2, k3, k5, hC, hbm⟩ := T.cls
  obtain ⟨cl, cld, csl, hcell⟩ := T.cell
  obtain ⟨ccl, cdd, vs, ccs, file, tf, hcode, hvs, hfile⟩ := T.code
  obtain ⟨oc, od, kV, doc, pm, an, ct, osl, hfn, hcd⟩ := T.fn
  have hcl : clsIn K C = some { name := nm, bases := bs, mro := .ref C :: bm, ns := N, qualname := q, hasDict := true, slotNames := sn, subclasses := sub, abstract := ab, collection := col, hasDel := false } := by unfold clsIn; rw [hC]
  have hCh := X _ _ hC
  refine ks_wpAt_Expr_any (ks_wpAt_MethodCall (pl := L2.plainOf (.Call (.Name "super" p0) [] [] p1) (ksEnv qual scope L fI (.ref cda) cc)) ?_ (hcall _)) (by show interactive _ = false; simp [interactive, hk]) (by rfl)
  refine ks_wpAt_super_base (env := ksEnv qual scope L fI (.ref cda) cc) hks hkc (by decide) rfl (X _ _ hfn) rfl har rfl (X _ _ hcode) rfl hvs hfile htop ?_
  refine ks_loadName_global hk hks (loadGlobal_builtin (env := ksEnv qual scope L fI (.ref cda) cc) hg hms hb hmb ⟨rfl, ?_⟩)
  refine wpAny_loadName_free hk hkc rfl ⟨_, X _ _ hcell, rfl⟩ ?_
  rw [har2]
  refine wpAny_loadName_local hk hka hL hself ?_
  refine ks_wpAny_isType_cls hCh rfl ⟨rfl, ?_⟩
  have hxC : x ≠ C := fun z => by
    rw [z, hCh] at hx
    have := congrArg Obj.data (Option.some.inj hx)
    cases this
  refine ks_wpAny_call_super hCh rfl hx rfl (fun c => nofun) (looks_mroIn X T.subS) (fun h1 e1 k1 => ?_)
  have X1 : K.In h1 := X.keeps k1
  have I1 : InstAt h1 x (excO C t0) C none := ⟨k1 _ _ hx, rfl, rfl, trivial⟩
  have hI : Looks (model prog w) h1 (isInstance (.ref x) (.type "ValueError")) true := I1.type.andThen (looks_subIn X1 T.subV)
  have hsup := T.sup
  unfold ks_superIn at hsup
  rw [hcl] at hsup
  refine kxs_getMethod kxs_ValueError e1 (looks_opaque X1 T.noO) (l₀ := .ref C :: bm) (fun A Q E s k q => wpAny_bind ((looks_clsIn X1 hcl) A _ E s k (wpAny_pure q))) rfl X1 hsup hI hxC (by decide) ?_
  have k2 : ∀ b o, h1.get? b = some o → (h1.push (kxs_mw "ValueError.__init__" x)).get? b = some o := fun b o e => Heap.get?_push_of_some _ e
  show wpAny _ _ (callWith p3 (.ref h1.objs.size) [] (backTo p3 (starEach [fstr] (ksEnv qual scope L fI (.ref cda) cc))) []) _ _ _
  rw [hstar]
  refine kxs_callWith (i := "ValueError.__init__") (x := x) rfl (evalArgs_plain (Calls.spliced_cons (wpAny_mono (hF _ _ fun b o e => k2 b o (k1 b o e)) (fun u s2 hu => ?_) fun _ _ e => e)))
  obtain ⟨z, tk, t2, rfl, rfl⟩ := hu
  refine Calls.spliced_nil ⟨Heap.get?_push_size _ rfl, ?_⟩
  refine call_mw (T := T) (X1.keeps k2) (k2 _ _ (k1 _ _ hx)) (Heap.get?_push_size _ rfl) (by rw [sizeLine_eq]; exact (by decide : 1 ≤ 16777216)) fun h' t1 k3 e3 => ?_
  exact hq h' _ t1 (fun b o hb e => k3 b o hb (k2 b o (k1 b o e))) e3

/-- self.f = x, the first of them -/
theorem run_keep0 {h : Heap} {g : Array GenState} {d : Drawn} {t : Nat} {os : OsState} {L x t0 : Addr} {f px : Str} {v : Value} {q1 q2 q3 q4 : Pos} {m : Str → Option Value} {c : Code} {Q : Flow → Shared → Prop} (T : ExK prog K C fI cc cda qual args body scope)
    (X : K.In h) (hx : h.get? x = some (excO C t0)) (hL : h.Ns L m) (hself : m "self" = some (.ref x)) (hv : m px = some v) (hka : scope.names.lookup ("self" : Str) = some .local) (hkp : scope.names.lookup px = some .local) (hdb : (px == ("__debug__" : Str)) = false) (hk : scope.kind = .function) (hno : findIn K (.ref C) f = some none)
    (hq : ∀ h' t' dx, (∀ b o, b ≠ x → h.get? b = some o → h'.get? b = some o) → h.objs.size ≤ dx → dx ≠ x → h'.get? x = some { cls := .ref C, dict := some dx, data := .fields #[.ref t0, .none, .none, .none, .bool false, .none] } → h'.Ns1 dx (fun y => if y = f then some v else none) → Q .next ⟨h', g, d, t', os⟩) :
    _root_.PySem.wpAt (model prog w) A c (exec (sKeep f px q1 q2 q3 q4) (ksEnv qual scope L fI (.ref cda) cc)) Q E ⟨h, g, d, t, os⟩ := by
  obtain ⟨nm, q, N, bs, bm, sn, sub, ab, col, dd, k0, k1, k2, k3, k5, hC, hbm⟩ := T.cls
  have hcl : clsIn K C = some { name := nm, bases := bs, mro := .ref C :: bm, ns := N, qualname := q, hasDict := true, slotNames := sn, subclasses := sub, abstract := ab, collection := col, hasDel := false } := by unfold clsIn; rw [hC]
  refine ks_wpAt_Assign_Attr (wpAt_of_wpAny (wpAny_Name (wpAny_loadName_local hk hkp hL hv ?_) hdb))
  refine wpAny_Name (wpAny_loadName_local hk hka hL hself ?_) (by decide)
  refine set_plain X (ox := excO C t0) (od := none) ⟨hx, rfl, rfl, trivial⟩ T.sa ?_
  exact exc_osa X hx hcl (show refsVE (.ref C :: bm) = true from hbm) rfl hno fun h' t' dx k dn dne e1 e2 => hq h' t' dx k dn dne e1 e2
/-- self.f = x, a further one -/
theorem run_keep1 {h : Heap} {g : Array GenState} {d : Drawn} {t : Nat} {os : OsState} {L x t0 dx : Addr} {f px : Str} {v : Value} {q1 q2 q3 q4 : Pos} {m m0 : Str → Option Value} {nl : List Str} {c : Code} {Q : Flow → Shared → Prop} (T : ExK prog K C fI cc cda qual args body scope)
    (X : K.In h) (hx : h.get? x = some { cls := .ref C, dict := some dx, data := .fields #[.ref t0, .none, .none, .none, .bool false, .none] }) (hns : h.Ns1 dx m0) (hw : Within m0 nl) (hz : nl.length ≤ 1000) (hL : h.Ns L m) (hself : m "self" = some (.ref x)) (hv : m px = some v) (hka : scope.names.lookup ("self" : Str) = some .local) (hkp : scope.names.lookup px = some .local) (hdb : (px == ("__debug__" : Str)) = false) (hk : scope.kind = .function) (hno : findIn K (.ref C) f = some none)
    (hq : ∀ h' t', (∀ b o, b ≠ dx → h.get? b = some o → h'.get? b = some o) → h'.Ns1 dx (fun y => if y = f then some v else m0 y) → Q .next ⟨h', g, d, t', os⟩) :
    _root_.PySem.wpAt (model prog w) A c (exec (sKeep f px q1 q2 q3 q4) (ksEnv qual scope L fI (.ref cda) cc)) Q E ⟨h, g, d, t, os⟩ := by
  obtain ⟨nm, q, N, bs, bm, sn, sub, ab, col, dd, k0, k1, k2, k3, k5, hC, hbm⟩ := T.cls
  have hcl : clsIn K C = some { name := nm, bases := bs, mro := .ref C :: bm, ns := N, qualname := q, hasDict := true, slotNames := sn, subclasses := sub, abstract := ab, collection := col, hasDel := false } := by unfold clsIn; rw [hC]
  obtain ⟨oD, _, _, hoD, _, _⟩ := hns.count hw
  refine ks_wpAt_Assign_Attr (wpAt_of_wpAny (wpAny_Name (wpAny_loadName_local hk hkp hL hv ?_) hdb))
  refine wpAny_Name (wpAny_loadName_local hk hka hL hself ?_) (by decide)
  refine set_plain X (ox := { cls := .ref C, dict := some dx, data := .fields #[.ref t0, .none, .none, .none, .bool false, .none] }) (od := some oD) ⟨hx, rfl, rfl, hoD⟩ T.sa ?_
  exact OEX.osa_old X hx hns hw hz hcl (show refsVE (.ref C :: bm) = true from hbm) rfl hno fun h' t' k e => hq h' t' k e
/-- what __init__ leaves of a fresh exception at x -/
structure InitEnd (h h' : Heap) (x C dx t1 : Addr) (mA : Str → Option Value) : Prop where
  keep : ∀ b o, b ≠ x → h.get? b = some o → h'.get? b = some o
  obj : h'.get? x = some { cls := .ref C, dict := some dx, data := .fields #[.ref t1, .none, .none, .none, .bool false, .none] }
  dbig : h.objs.size ≤ dx
  dne : dx ≠ x
  ns : h'.Ns1 dx mA
/-- a made one -/
structure OwnMade (h h' : Heap) (e C d : Addr) (mA : Str → Option Value) : Prop where
  keep : ∀ b o, h.get? b = some o → h'.get? b = some o
  new : h.objs.size ≤ e
  obj : ∃ oe vs, h'.get? e = some oe ∧ oe.cls = .ref C ∧ oe.dict = some d ∧ oe.data = .fields vs ∧ vs[1]? = some .none
  dbig : h.objs.size ≤ d
  dne : d ≠ e
  ns : h'.Ns1 d mA
/-- C(..), where __init__ does so -/
theorem own_made {s : Shared} {us : List Value} {mA : Str → Option Value} (T : ExK prog K C fI cc cda qual args body scope) (X : K.In s.heap) (hz : us.length ≤ sizeLine)
    (hI : ∀ (A : Around) (x t0 : Addr) (s' : Shared) (R : Result → Shared → Prop), (∀ b o, s.heap.get? b = some o → s'.heap.get? b = some o) → s'.heap.get? x = some (excO C t0) → s.heap.objs.size ≤ x → K.lookup x = none →
      (∀ h' tk dx t1, InitEnd s'.heap h' x C dx t1 mA → R (.ok (.ret .none)) { s' with heap := h', toks := tk }) → s'.gens = s.gens → s'.drawn = s.drawn → s'.toks = s.toks → s'.os = s.os → L2.Room 1 A → codeAny (model prog w) A (.call (.ref fI) ⟨.ref x :: us, []⟩) R s')
    (hroom : L2.Room 2 A)
    (hq : ∀ h' tk e d, OwnMade s.heap h' e C d mA → R (.ok (.ret (.ref e))) { s with heap := h', toks := tk }) :
    codeAny (model prog w) A (.call (.ref C) ⟨us, []⟩) R s := by
  obtain ⟨nm, q, N, bs, bm, sn, sub, ab, col, dd, k0, k1, k2, k3, k5, hC, hbm⟩ := T.cls
  obtain ⟨hp, g, dr, tk, os⟩ := s
  have k : ∀ b o, hp.get? b = some o → ((hp.push (kdv_tup us)).push (excO C hp.objs.size)).get? b = some o := fun b o e => Heap.get?_push_of_some _ (Heap.get?_push_of_some _ e)
  have hget : ((hp.push (kdv_tup us)).push (excO C hp.objs.size)).get? (hp.objs.size + 1) = some (excO C hp.objs.size) := by heap_get
  have hnx : K.lookup (hp.objs.size + 1) = none := by
    cases e : K.lookup (hp.objs.size + 1) with
    | none => rfl
    | some o =>
      have z : hp.get? (hp.objs.size + 1) = some o := X _ _ e
      exact absurd (Nat.lt_of_succ_lt (Heap.lt_size z)) (Nat.lt_irrefl _)
  refine call_own F.excBase_ValueError (fun X => refsVE_contains X bm hbm) (X _ _ hC) (looks_findIn X T.iC) (fun self => bind_fn X self T.tC) hz ?_
  refine hI _ _ _ _ _ (fun b o e => k b o e) hget (Nat.le_succ _) hnx (fun h' tk' dx t1 M => ?_) rfl rfl rfl rfl ?_
  · obtain ⟨k', hx, dn, dne, hns⟩ := M
    have old : ∀ b o, hp.get? b = some o → h'.get? b = some o := fun b o e => k' b o (Nat.ne_of_lt (Nat.lt_succ_of_lt (Heap.lt_size e))) (k b o e)
    have z : hp.objs.size + 1 + 1 ≤ dx := by
      have q := dn
      simp only [Heap.size_push] at q
      exact q
    exact ⟨rfl, hq h' tk' (hp.objs.size + 1) dx ⟨old, Nat.le_succ _, ⟨_, _, hx, rfl, rfl, rfl, rfl⟩, Nat.le_trans (Nat.le_trans (Nat.le_succ _) (Nat.le_succ _)) z, dne, hns⟩⟩
  · exact hroom.make C us []
end
end D7X
namespace D7X
open PySem PySem.W PySem.Calls PyProof.Rows PySem.HandSPX
/-- what an error's text may tell: a short text, a small int, a tuple of ints -/
inductive FmtV (h : Heap) : Value → Prop
  | str {x : Str} {t : Tok} : x.length ≤ 1000 → FmtV h (.str x t)
  | int {i : Int} {t : Tok} : i.natAbs < 2 ^ 64 → FmtV h (.int i t)
  | tup {a : Addr} {o : Obj} {items : Array Value} {n : Nat} {ns : List Int} : h.get? a = some o → o.cls = .type "tuple" → o.data = .seq items n → IntsAre items.toList ns → (∀ i ∈ ns, i.natAbs < 2 ^ 64) → ns.length ≤ 1000 → FmtV h (.ref a)
theorem FmtV.keeps {h h' : Heap} {v : Value} (k : ∀ b o, h.get? b = some o → h'.get? b = some o) (f : FmtV h v) : FmtV h' v := by
  cases f with
  | str h => exact .str h
  | int h => exact .int h
  | tup h1 h2 h3 h4 h5 h6 => exact .tup (k _ _ h1) h2 h3 h4 h5 h6
theorem log_small {i : Int} (h : i.natAbs < 2 ^ 64) : i.natAbs.log2 < 1920 := by
  by_cases z : i.natAbs = 0
  · rw [z]; decide
  · exact Nat.lt_of_lt_of_le ((Nat.log2_lt z).mpr h) (by decide)
theorem len_small {i : Int} (h : i.natAbs < 2 ^ 64) : (Str.ofString (toString i)).length ≤ 2000 := by
  have := int_text_length_le (k := 1920) (by decide) (log_small h)
  rw [PySem.ofString_length]
  omega
section
variable {prog : Program} {w : World} {A : Around} {E : Value → Shared → Prop} {h : Heap} {g : Array GenState} {d : Drawn} {t : Nat} {os : OsState}
theorem fmt_run {v : Value} {Q : Value → Shared → Prop} (hu : A.units + 2 < cLine) (f : FmtV h v) (q : ∀ (m : Str) (u tk : Tok), m.length ≤ 3000000 → Q (.str m u) ⟨h, g, d, tk, os⟩) : wpAny (model prog w) A (formatField v Str.empty) Q E ⟨h, g, d, t, os⟩ := by
  have hl : sizeLine = 16777216 := sizeLine_eq
  cases f with
  | str hx => exact wpAny_formatField_str (q _ _ _ (by omega)) (q _ _ _ (by omega)) (by omega)
  | int hi => exact wpAny_formatField_int (log_small hi) (q _ _ _ (Nat.le_trans (len_small hi) (by decide)))
  | tup h1 h2 h3 h4 h5 h6 =>
    rename_i a o items n ns
    have key : ∀ {us : List Value} {ns : List Int}, IntsAre us ns → (∀ i ∈ ns, i.natAbs < 2 ^ 64) → ReprAll prog w us (ns.map fun i => Str.ofString (toString i)) ∧ piled (ns.map fun i => Str.ofString (toString i)) ≤ 2002 * ns.length := by
      intro us ns h
      induction h with
      | nil => intro _; exact ⟨.nil, Nat.le_refl _⟩
      | cons i t r ih =>
        intro hs
        obtain ⟨h1, h2⟩ := ih fun j hj => hs j (List.mem_cons_of_mem _ hj)
        refine ⟨.cons (ReprIs.int t (log_small (hs i List.mem_cons_self))) h1, ?_⟩
        have := len_small (hs i List.mem_cons_self)
        rw [List.map_cons, piled_cons, List.length_cons]
        omega
    obtain ⟨k1, k2⟩ := key h4 h5
    have := fmt_text (ns.map fun i => Str.ofString (toString i))
    have z : 2002 * ns.length ≤ 2002 * 1000 := Nat.mul_le_mul_left _ h6
    refine fmt_tuple hu h1 h2 h3 k1 (by omega) fun m u tk hm => q m u tk (by omega)
/-- f'text {p}' at a name of the frame -/
theorem fstr1 {env : Env} {L : Addr} {m : Str → Option Value} {txt px : Str} {v : Value} {j1 : Nat} {q1 q2 q3 q4 : Pos} {Q : Value → Shared → Prop} (hu : A.units + 2 < cLine) (hk : env.scope.kind = .function) (hL : env.locals = L) (hns : h.Ns L m) (hv : m px = some v) (hkp : env.kindOf px = some .local) (hdb : (px == ("__debug__" : Str)) = false)
    (ht : txt.length ≤ 1000) (f : FmtV h v) (q : ∀ (z : Str) (u tk : Tok), Q (.str z u) ⟨h, g, d, tk, os⟩) :
    wpAny (model prog w) A (eval (.JoinedStr [.Constant (.str txt) j1 q1, .FormattedValue (.Name px q2) (-1) none q3] q4) env) Q E ⟨h, g, d, t, os⟩ := by
  have hl : sizeLine = 16777216 := sizeLine_eq
  have e0 : (Str.empty : Str).length = 0 := rfl
  refine wpAny_JoinedStr (Joins_cons ?_)
  refine Calls.Constant_str ⟨txt, _, rfl, by rw [strLen_append, e0]; omega, Joins_cons ?_⟩
  refine wpAny_FormattedValue_plain (wpAny_Name (wpAny_loadName_local hk hkp (hL ▸ hns) hv ?_) hdb)
  refine fmt_run hu f fun z u tk hz => ⟨z, u, rfl, by rw [strLen_append, strLen_append, e0]; omega, Joins_nil ⟨by rw [strLen_append, strLen_append, e0]; omega, q _ _ _⟩⟩
variable {R : Result → Shared → Prop} {K : Frag} {C fI cc cda : Addr} {qual : Str} {args : Arguments} {body : List Stmt} {scope : Scope} {mg mb : Str → Option Value}
theorem hcall_of {p0 p1 p2 p3 : Pos} {e : Expr} (hl : (p2.endLine == p3.line) = true) (hf : ∀ env : Env, methodCallForm 1 (backTo p3 (starEach [e] env)) (backToKw p3 (keywordEach [] env)) = true) : ∀ env : Env, eval (.Call (.Attribute (.Call (.Name "super" p0) [] [] p1) "__init__" p2) [e] [] p3) env = (do
      let ov ← attributeBase (.Call (.Name "super" p0) [] [] p1) "__init__" env (eval (.Call (.Name "super" p0) [] [] p1) env)
      standAt p2.atName
      let (f, first) ← holding [ov] (getMethod ov "__init__" (L2.plainOf (.Call (.Name "super" p0) [] [] p1) env))
      callWith p3 f first (backTo p3 (starEach [e] env)) []) := by
  intro env
  rw [arm_eval_Call]
  have key := fun ov => L2.mcall_line (o := .Call (.Name "super" p0) [] [] p1) (m := "__init__") (apos := p2) (pos := p3) (env := env) (ov := ov) (hf env) hl
  simp only [List.length_singleton, List.length_nil, Nat.add_zero]
  refine congrArg _ (funext fun ov => congrArg _ (funext fun _ => ?_))
  exact key ov
/-- def __init__(self, p): super().__init__(f'text {p}'); self.f = p -/
theorem init1 {txt px f : Str} {j1 : Nat} {p0 p1 p2 p3 p4 q1 q2 q3 q4 r1 r2 r3 r4 : Pos} {x t0 : Addr} {v : Value} (T : ExK prog K C fI cc cda qual args [sSup (.JoinedStr [.Constant (.str txt) j1 q1, .FormattedValue (.Name px q2) (-1) none q3] q4) p0 p1 p2 p3 p4, sKeep f px r1 r2 r3 r4] scope)
    (htop : (prog.main.scope.names.lookup ("super" : Str)).isSome = false) (hms : mg "super" = none) (hmb : mb "super" = some (.type "super"))
    (X : K.In h) (hlim : h.NoLimit) (hg : h.Ns mainGlobals mg) (hb : h.Ns builtinsNs mb) (hx : h.get? x = some (excO C t0)) (hnx : K.lookup x = none) (hr : L2.Room 1 A)
    (hks : scope.names.lookup ("super" : Str) = some .globalImplicit) (hkc : scope.names.lookup ("__class__" : Str) = some .free) (hka : scope.names.lookup ("self" : Str) = some .local) (hkp : scope.names.lookup px = some .local) (hcell : ∀ y ∈ scope.names, y.2 ≠ .cell)
    (hk : scope.kind = .function) (hco : scope.isCoroutine = false) (hgn : scope.isGenerator = false) (har : (args.posonlyargs ++ args.args).head? = some ⟨"self", ar2, ar3⟩) (hdb : (px == ("__debug__" : Str)) = false) (hpx : (px == ("self" : Str)) = false) (ht : txt.length ≤ 1000) (hno : findIn K (.ref C) f = some none)
    (hbind : ∀ (kV doc pm : Value) (an : Option Addr) (ct : Value), bindArgs (fnX "__init__" qual args [sSup (.JoinedStr [.Constant (.str txt) j1 q1, .FormattedValue (.Name px q2) (-1) none q3] q4) p0 p1 p2 p3 p4, sKeep f px r1 r2 r3 r4] scope [("__class__", cc)] .none kV doc pm an (.ref cda) ct) ⟨[.ref x, v], []⟩ = pure [(("self" : Str), .ref x), (px, v)])
    (hcall : ∀ env : Env, eval (.Call (.Attribute (.Call (.Name "super" p0) [] [] p1) "__init__" p2) [.JoinedStr [.Constant (.str txt) j1 q1, .FormattedValue (.Name px q2) (-1) none q3] q4] [] p3) env = (do
      let ov ← attributeBase (.Call (.Name "super" p0) [] [] p1) "__init__" env (eval (.Call (.Name "super" p0) [] [] p1) env)
      standAt p2.atName
      let (f, first) ← holding [ov] (getMethod ov "__init__" (L2.plainOf (.Call (.Name "super" p0) [] [] p1) env))
      callWith p3 f first (backTo p3 (starEach [.JoinedStr [.Constant (.str txt) j1 q1, .FormattedValue (.Name px q2) (-1) none q3] q4] env)) []))
    (fv : FmtV h v) (hq : ∀ h' tk dx t1, InitEnd h h' x C dx t1 (fun y => if y = f then some v else none) → R (.ok (.ret .none)) ⟨h', g, d, tk, os⟩) :
    codeAny (model prog w) A (.call (.ref fI) ⟨[.ref x, v], []⟩) R ⟨h, g, d, t, os⟩ := by
  obtain ⟨oc, od, kV, doc, pm, an, ct, osl, hfn, hcd⟩ := T.fn
  refine ks_codeAny_call_defAt (binds := [(("self" : Str), .ref x), (px, v)]) hr.depth (X _ _ hfn) rfl hlim (codeRec_of X hcd) rfl (BindsTo.of_eq (hbind _ _ _ _ _)) hcell (fun y hy => ?_) (fun h₀ hns kp => ?_) hco hgn hk
  · rcases List.mem_cons.mp hy with e | hy
    · rw [e]; exact hka
    · rw [List.mem_singleton.mp hy]; exact hkp
  · show _root_.PySem.wpAt (model prog w) (A.deeper (ksEnv qual scope h.objs.size fI (.ref cda) cc)) (.func _ (ksEnv qual scope h.objs.size fI (.ref cda) cc)) (execs _ (ksEnv qual scope h.objs.size fI (.ref cda) cc)) _ _ _
    have hself : ([(("self" : Str), Value.ref x), (px, v)].reverse.lookup ("self" : Str)) = some (.ref x) := by
      have e : (("self" : Str) == px) = false := by
        cases z : (("self" : Str) == px) with
        | false => rfl
        | true => rw [beq_iff_eq.mp z] at hpx; simp at hpx
      simp [List.lookup, e]
    have hvx : ([(("self" : Str), Value.ref x), (px, v)].reverse.lookup px) = some v := by simp [List.lookup]
    have hxL : x ≠ h.objs.size := Nat.ne_of_lt (Heap.lt_size hx)
    have hu2 : (A.deeper (ksEnv qual scope h.objs.size fI (.ref cda) cc)).units + 2 < cLine := by
      have := (hr.deeper (ksEnv qual scope h.objs.size fI (.ref cda) cc)).units
      omega
    refine ks_wpAt_execs_cons (run_sup (t0 := t0) T htop hms hmb (X.keeps kp) (hg.keeps kp) (hb.keeps kp) (kp _ _ hx) hns hself hks hkc hka hk har rfl (fun h1 t1 k1 => ?_) rfl hcall fun h' t' t1 k' hx' => ?_)
    · exact fstr1 hu2 hk rfl (hns.keeps k1) hvx hkp hdb ht ((fv.keeps kp).keeps k1) fun z u tk => ⟨z, u, tk, rfl, rfl⟩
    · have X' : K.In h' := fun a o e => k' a o (fun z => by rw [z, hnx] at e; cases e) (kp _ _ (X _ _ e))
      have hns' := hns.at fun o e => k' _ o (Ne.symm hxL) e
      refine ks_wpAt_execs_cons (run_keep0 (t0 := t1) T X' hx' hns' hself hvx hka hkp hdb hk hno fun h2 t2 dx k2 dn dne hx2 hns2 => ?_)
      refine wpAt_of_wpAny (wpAny_execs_nil (hq h2 t2 dx t1 ⟨fun b o hb e => k2 b o hb (k' b o hb (kp b o e)), hx2, Nat.le_of_lt (Nat.lt_of_lt_of_le hns'.lt dn), dne, hns2⟩))
end
end D7X
/-! readings over data: what a def computes, with no heap in sight -/
namespace D7
open PySem PySem.Spec PyProof.Rows L2
inductive D where
  | non
  | bl (b : Bool)
  | int (i : Int)
  | str (x : Str)
  | lst (ds : List D)
  | tup (ds : List D)
  | set (S : Int → Bool) (n : Nat)
  | dic (kvs : List (Key × D))
  | dtu (kvs : List (List Key × D))
  | obj (C : Addr) (fs : List (Str × D))
  | row
  | scr (ns : List Int)
/-- what is frozen; where the row of draws stands -/
structure Gh where
  F : Hp
  rw : Option Addr
def Gh.le (g g' : Gh) : Prop := (∀ a o, g.F a = some o → g'.F a = some o) ∧ ∀ r, g.rw = some r → g'.rw = some r
theorem Gh.le_refl (g : Gh) : g.le g := ⟨fun _ _ h => h, fun _ h => h⟩
theorem Gh.le.trans {a b c : Gh} (h : a.le b) (k : b.le c) : a.le c := ⟨fun x o e => k.1 x o (h.1 x o e), fun r e => k.2 r (h.2 r e)⟩
mutual
inductive Rep (K : PySem.W.Frag) (g : Gh) : V → D → Prop
  | non : Rep K g .non .non
  | bl (b : Bool) : Rep K g (.bl b) (.bl b)
  | int (i : Int) : Rep K g (.int i) (.int i)
  | str (x : Str) : Rep K g (.str x) (.str x)
  | lst {a : Addr} {xs : List V} {ds : List D} : g.F a = some (.lst xs) → Reps K g xs ds → Rep K g (.ref a) (.lst ds)
  | tup {a : Addr} {xs : List V} {ds : List D} : SqT K g.F a xs → Reps K g xs ds → Rep K g (.ref a) (.tup ds)
  | set {a : Addr} {S : Int → Bool} {n : Nat} : g.F a = some (.set S n) → Rep K g (.ref a) (.set S n)
  | dic {a : Addr} {kvs : List (Key × V)} {ds : List (Key × D)} : g.F a = some (.dK kvs) → kvs.map (·.1) = ds.map (·.1) → Reps K g (kvs.map (·.2)) (ds.map (·.2)) → Rep K g (.ref a) (.dic ds)
  | dtu {a : Addr} {kvs : List (List Key × V)} {ds : List (List Key × D)} : g.F a = some (.dT kvs) → kvs.map (·.1) = ds.map (·.1) → Reps K g (kvs.map (·.2)) (ds.map (·.2)) → Rep K g (.ref a) (.dtu ds)
  | obj {a C dx : Addr} {fs : List (Str × V)} {ds : List (Str × D)} : g.F a = some (.ins C dx fs) → fs.map (·.1) = ds.map (·.1) → Reps K g (fs.map (·.2)) (ds.map (·.2)) → Rep K g (.ref a) (.obj C ds)
  | row {a : Addr} : g.rw = some a → Rep K g (.ref a) .row
  | scr {a : Addr} {ns : List Int} : SqL K g.F a (ns.map V.int) → Rep K g (.ref a) (.scr ns)
inductive Reps (K : PySem.W.Frag) (g : Gh) : List V → List D → Prop
  | nil : Reps K g [] []
  | cons {v : V} {vs : List V} {d : D} {ds : List D} : Rep K g v d → Reps K g vs ds → Reps K g (v :: vs) (d :: ds)
end
section
variable {K : PySem.W.Frag} {g g' : Gh} {H H' : Hp}
theorem sqL_mono {a : Addr} {xs : List V} (h : ∀ o, H a = some o → H' a = some o) (x : SqL K H a xs) : SqL K H' a xs := by
  rcases x with (x | ⟨o, x⟩) | x
  · exact .inl (.inl (h _ x))
  · exact .inl (.inr ⟨o, h _ x⟩)
  · exact .inr x
theorem sqT_mono {a : Addr} {xs : List V} (h : ∀ o, H a = some o → H' a = some o) (x : SqT K H a xs) : SqT K H' a xs := by
  rcases x with (x | ⟨o, x⟩) | x
  · exact .inl (.inl (h _ x))
  · exact .inl (.inr ⟨o, h _ x⟩)
  · exact .inr x
mutual
theorem Rep.mono (l : g.le g') : ∀ {v : V} {d : D}, Rep K g v d → Rep K g' v d
  | _, _, .non => .non
  | _, _, .bl b => .bl b
  | _, _, .int i => .int i
  | _, _, .str x => .str x
  | _, _, .lst h r => .lst (l.1 _ _ h) (Reps.mono l r)
  | _, _, .tup h r => .tup (sqT_mono (l.1 _) h) (Reps.mono l r)
  | _, _, .set h => .set (l.1 _ _ h)
  | _, _, .dic h e r => .dic (l.1 _ _ h) e (Reps.mono l r)
  | _, _, .dtu h e r => .dtu (l.1 _ _ h) e (Reps.mono l r)
  | _, _, .obj h e r => .obj (l.1 _ _ h) e (Reps.mono l r)
  | _, _, .row h => .row (l.2 _ h)
  | _, _, .scr h => .scr (sqL_mono (l.1 _) h)
theorem Reps.mono (l : g.le g') : ∀ {vs : List V} {ds : List D}, Reps K g vs ds → Reps K g' vs ds
  | _, _, .nil => .nil
  | _, _, .cons h r => .cons (Rep.mono l h) (Reps.mono l r)
end
theorem Reps.length : ∀ {vs : List V} {ds : List D}, Reps K g vs ds → vs.length = ds.length
  | _, _, .nil => rfl
  | _, _, .cons _ r => congrArg Nat.succ r.length
theorem Reps.get : ∀ {vs : List V} {ds : List D} {i : Nat} {d : D}, Reps K g vs ds → ds[i]? = some d → ∃ v, vs[i]? = some v ∧ Rep K g v d
  | _, _, _, _, .nil, e => by simp at e
  | _, _, 0, _, .cons h _, e => by simp at e; subst e; exact ⟨_, rfl, h⟩
  | _, _, i + 1, d, .cons _ t, e => by
    obtain ⟨v, h1, h2⟩ := Reps.get (i := i) (d := d) t (by simpa using e)
    exact ⟨v, by simpa using h1, h2⟩
theorem Reps.get' : ∀ {vs : List V} {ds : List D} {i : Nat} {v : V}, Reps K g vs ds → vs[i]? = some v → ∃ d, ds[i]? = some d ∧ Rep K g v d
  | _, _, _, _, .nil, e => by simp at e
  | _, _, 0, _, .cons h _, e => by simp at e; subst e; exact ⟨_, rfl, h⟩
  | _, _, i + 1, d, .cons _ t, e => by
    obtain ⟨v, h1, h2⟩ := Reps.get' (i := i) (v := d) t (by simpa using e)
    exact ⟨v, by simpa using h1, h2⟩
theorem Reps.append : ∀ {vs ws : List V} {ds es : List D}, Reps K g vs ds → Reps K g ws es → Reps K g (vs ++ ws) (ds ++ es)
  | _, _, _, _, .nil, s => s
  | _, _, _, _, .cons h r, s => .cons h (r.append s)
theorem Reps.take : ∀ {vs : List V} {ds : List D} (n : Nat), Reps K g vs ds → Reps K g (vs.take n) (ds.take n)
  | _, _, 0, _ => .nil
  | _, _, _ + 1, .nil => .nil
  | _, _, n + 1, .cons h r => .cons h (r.take n)
theorem Reps.drop : ∀ {vs : List V} {ds : List D} (n : Nat), Reps K g vs ds → Reps K g (vs.drop n) (ds.drop n)
  | _, _, 0, r => r
  | _, _, _ + 1, .nil => .nil
  | _, _, n + 1, .cons _ r => r.drop n
theorem Reps.set {v : V} {d : D} (q : Rep K g v d) : ∀ {vs : List V} {ds : List D} (i : Nat), Reps K g vs ds → Reps K g (vs.set i v) (ds.set i d)
  | _, _, _, .nil => .nil
  | _, _, 0, .cons _ r => .cons q r
  | _, _, i + 1, .cons h r => .cons h (Reps.set q i r)
theorem Reps.eraseIdx : ∀ {vs : List V} {ds : List D} (i : Nat), Reps K g vs ds → Reps K g (vs.eraseIdx i) (ds.eraseIdx i)
  | _, _, _, .nil => .nil
  | _, _, 0, .cons _ r => r
  | _, _, i + 1, .cons h r => .cons h (r.eraseIdx i)
theorem Reps.reverse : ∀ {vs : List V} {ds : List D}, Reps K g vs ds → Reps K g vs.reverse ds.reverse
  | _, _, .nil => .nil
  | _, _, .cons h r => by
    rw [List.reverse_cons, List.reverse_cons]
    exact r.reverse.append (.cons h .nil)
theorem Reps.ints : ∀ {vs : List V} {ns : List Int}, Reps K g vs (ns.map D.int) → vs = ns.map V.int
  | _, [], .nil => rfl
  | _, n :: ns, .cons (.int _) r => by rw [r.ints]; rfl
theorem Reps.of_ints : ∀ (ns : List Int), Reps K g (ns.map V.int) (ns.map D.int)
  | [] => .nil
  | n :: ns => .cons (.int n) (Reps.of_ints ns)
end
/-- the row of draws: the script, three numbers -/
def RowOk (K : PySem.W.Frag) (F H : Hp) (r : Addr) : Prop := ∃ (sa : Addr) (ns : List Int) (i j k : Int), H r = some (.lst [.ref sa, .int i, .int j, .int k]) ∧ SqL K F sa (ns.map V.int) ∧ 0 ≤ i ∧ 0 ≤ j ∧ 0 ≤ k
/-- what is the same for all defs: the written part, the tables of lambdas, those of generator expressions -/
structure Cfg where
  K : PySem.W.Frag
  T : List (Addr × Str)
  G : List Addr
structure Base (c : Cfg) (g0 : Gh) (H0 : Hp) (g : Gh) (H : Hp) : Prop where
  le : g0.le g
  sub : ∀ a o, g.F a = some o → H a = some o
  ntb : ∀ a ps, g.F a ≠ some (.tbl ps)
  fr : ∀ a o, g.F a = some o → g0.F a = some o ∨ H0 a = none
  row : ∀ r, g.rw = some r → g.F r = none ∧ RowOk c.K g.F H r
  rwn : ∀ r, g.rw = some r → g0.rw = some r ∨ H0 r = none
  there : ∀ a, H0 a ≠ none → H a ≠ none
  keep : ∀ a o, H0 a = some o → g0.rw ≠ some a → (∀ ps, o ≠ .tbl ps) → H a = some o
  tab : LamX.Tabs c.T H ∧ ∀ P ∈ c.G, GxR.TabG H P
/-- a state by itself -/
abbrev Good (c : Cfg) (g : Gh) (H : Hp) : Prop := Base c g H g H
section
variable {c : Cfg} {g0 g g' : Gh} {H0 H H' : Hp}
theorem Base.good (b : Base c g0 H0 g H) : Good c g H := ⟨g.le_refl, b.sub, b.ntb, fun _ _ h => .inl h, b.row, fun _ h => .inl h, fun _ h => h, fun _ _ h _ _ => h, b.tab⟩
theorem Base.trans (b : Base c g0 H0 g H) (d : Base c g H g' H') : Base c g0 H0 g' H' := by
  refine ⟨b.le.trans d.le, d.sub, d.ntb, fun a o h => ?_, d.row, fun r h => ?_, fun a h => d.there a (b.there a h), fun a o h n t => ?_, d.tab⟩
  · rcases d.fr a o h with z | z
    · exact b.fr a o z
    · refine .inr ?_
      cases q : H0 a with
      | none => rfl
      | some u => exact absurd z (b.there a (by rw [q]; exact fun z => nomatch z))
  · rcases d.rwn r h with z | z
    · exact b.rwn r z
    · refine .inr ?_
      cases q : H0 r with
      | none => rfl
      | some u => exact absurd z (b.there r (by rw [q]; exact fun z => nomatch z))
  · refine d.keep a o (b.keep a o h n t) (fun z => ?_) t
    rcases b.rwn a z with e | e
    · exact n e
    · rw [h] at e; cases e
end
inductive Cell where
  | off
  | fz (d : D)
  | scr (ns : List Int)
  | ow (ds : List D)
  | os (S : Int → Bool) (n : Nat)
  | od (kvs : List (Key × D))
  | ot (kvs : List (List Key × D))
  | ob (a C : Addr) (fs : List (Str × D))
def Cell.own : Cell → Bool
  | .off => false
  | .fz _ => false
  | .scr _ => false
  | _ => true
/-- the object is this def's own: made by it, not frozen -/
def Own (H0 : Hp) (g : Gh) (a : Addr) : Prop := H0 a = none ∧ g.F a = none ∧ g.rw ≠ some a
def CellOk (K : PySem.W.Frag) (H0 : Hp) (g : Gh) (H : Hp) (u : Option (Option V)) : Cell → Prop
  | .off => True
  | .fz d => ∃ v, u = some (some v) ∧ Rep K g v d
  | .scr ns => ∃ a, u = some (some (.ref a)) ∧ SqL K g.F a (ns.map V.int)
  | .ow ds => ∃ a xs, u = some (some (.ref a)) ∧ H a = some (.lst xs) ∧ Reps K g xs ds ∧ Own H0 g a
  | .os S n => ∃ a, u = some (some (.ref a)) ∧ H a = some (.set S n) ∧ Own H0 g a
  | .od ds => ∃ a kvs, u = some (some (.ref a)) ∧ H a = some (.dK kvs) ∧ kvs.map (·.1) = ds.map (·.1) ∧ Reps K g (kvs.map (·.2)) (ds.map (·.2)) ∧ Own H0 g a
  | .ot ds => ∃ a kvs, u = some (some (.ref a)) ∧ H a = some (.dT kvs) ∧ kvs.map (·.1) = ds.map (·.1) ∧ Reps K g (kvs.map (·.2)) (ds.map (·.2)) ∧ Own H0 g a
  | .ob a C ds => ∃ dx fs, u = some (some (.ref a)) ∧ H a = some (.ins C dx fs) ∧ H dx = some (.own a) ∧ fs.map (·.1) = ds.map (·.1) ∧ Reps K g (fs.map (·.2)) (ds.map (·.2)) ∧ Own H0 g a ∧ Own H0 g dx
/-- what a def may have pinned -/
def plainO : HO → Bool
  | .lst _ => true
  | .tup _ => true
  | .set _ _ => true
  | .dK _ => true
  | .dT _ => true
  | .ins _ _ _ => true
  | _ => false
theorem plainO_nt {o : HO} (h : plainO o = true) : (∀ ps, o ≠ .tbl ps) ∧ (∀ y, o ≠ .own y) ∧ ∀ φ, o ≠ .ext φ := by
  cases o <;> first | (exfalso; exact Bool.noConfusion (show false = true from h)) | (refine ⟨fun _ z => ?_, fun _ z => ?_, fun _ z => ?_⟩ <;> cases z)
structure StD (c : Cfg) (g0 : Gh) (H0 : Hp) (g : Gh) (H : Hp) (ρ : List Cell) (σ : L2.St) (τ : List (Addr × HO)) : Prop where
  base : Base c g0 H0 g H
  len : ρ.length = σ.length
  ok : ∀ (i : Nat) cl, ρ[i]? = some cl → CellOk c.K H0 g H σ[i]? cl
  ne : ∀ (i j : Nat) ci cj (a : Addr), i ≠ j → ρ[i]? = some ci → ρ[j]? = some cj → ci.own = true → cj.own = true → σ[i]? = some (some (.ref a)) → σ[j]? = some (some (.ref a)) → False
  pin : ∀ p ∈ τ, H p.1 = some p.2 ∧ Own H0 g p.1 ∧ plainO p.2 = true ∧ ∀ (i : Nat) cl, ρ[i]? = some cl → cl.own = true → σ[i]? ≠ some (some (.ref p.1))
  pnd : (τ.map (·.1)).Nodup
section
variable {c : Cfg} {g0 g g' : Gh} {H0 H H' : Hp} {ρ : List Cell} {σ : L2.St} {τ : List (Addr × HO)}
theorem Own.step (d : Base c g H g' H') {a : Addr} {o : HO} (w : Own H0 g a) (e : H a = some o) : Own H0 g' a := by
  refine ⟨w.1, ?_, fun z => ?_⟩
  · cases q : g'.F a with
    | none => rfl
    | some u =>
      rcases d.fr a u q with z | z
      · rw [w.2.1] at z; cases z
      · rw [e] at z; cases z
  · rcases d.rwn a z with z | z
    · exact w.2.2 z
    · rw [e] at z; cases z
/-- other things happen: what is one's own stays -/
theorem StD.step (s : StD c g0 H0 g H ρ σ τ) (d : Base c g H g' H') : StD c g0 H0 g' H' ρ σ τ := by
  have kp : ∀ {a : Addr} {o : HO}, Own H0 g a → H a = some o → (∀ ps, o ≠ .tbl ps) → H' a = some o := fun w e t => d.keep _ _ e w.2.2 t
  refine ⟨s.base.trans d, s.len, fun i cl h => ?_, s.ne, fun p hp => ?_, s.pnd⟩
  · have z := s.ok i cl h
    cases cl with
    | off => trivial
    | fz x =>
      obtain ⟨v, e, r⟩ := z
      exact ⟨v, e, r.mono d.le⟩
    | scr ns =>
      obtain ⟨a, e, h1⟩ := z
      exact ⟨a, e, sqL_mono (d.le.1 a) h1⟩
    | ow ds =>
      obtain ⟨a, xs, e, h1, r, w⟩ := z
      exact ⟨a, xs, e, kp w h1 (fun _ => nofun), r.mono d.le, w.step d h1⟩
    | os S n =>
      obtain ⟨a, e, h1, w⟩ := z
      exact ⟨a, e, kp w h1 (fun _ => nofun), w.step d h1⟩
    | od ds =>
      obtain ⟨a, xs, e, h1, k, r, w⟩ := z
      exact ⟨a, xs, e, kp w h1 (fun _ => nofun), k, r.mono d.le, w.step d h1⟩
    | ot ds =>
      obtain ⟨a, xs, e, h1, k, r, w⟩ := z
      exact ⟨a, xs, e, kp w h1 (fun _ => nofun), k, r.mono d.le, w.step d h1⟩
    | ob a C ds =>
      obtain ⟨dx, fs, e, h1, h2, k, r, w, w2⟩ := z
      exact ⟨dx, fs, e, kp w h1 (fun _ => nofun), kp w2 h2 (fun _ => nofun), k, r.mono d.le, w.step d h1, w2.step d h2⟩
  · obtain ⟨h1, w, t, n⟩ := s.pin p hp
    exact ⟨kp w h1 (plainO_nt t).1, w.step d h1, t, n⟩
/-- a new object that never changes -/
theorem Base.alloc (b : Good c g H) {p : Addr} {o : HO} (hp : H p = none) (ho : ∀ ps, o ≠ .tbl ps) : Base c g H ⟨upd g.F p o, g.rw⟩ (upd H p o) := by
  have nF : g.F p = none := by
    cases q : g.F p with
    | none => rfl
    | some u => rw [b.sub p u q] at hp; cases hp
  have ex : ∀ b u, H b = some u → upd H p o b = some u := fun b u e => by rw [upd_ne (ne_of_none e hp)]; exact e
  refine ⟨⟨fun a u h => by show upd g.F p o a = some u; rw [upd_ne (ne_of_none h nF)]; exact h, fun _ h => h⟩, fun a u h => ?_, fun a ps h => ?_, fun a u h => ?_, fun r h => ?_, fun _ h => .inl h, fun a h => ?_, fun a u h _ _ => ex a u h, ?_, fun P hP => ?_⟩
  · by_cases e : a = p
    · subst e; rw [show (⟨upd g.F a o, g.rw⟩ : Gh).F = upd g.F a o from rfl, upd_same] at h; rw [upd_same]; exact h
    · have h : upd g.F p o a = some u := h
      rw [upd_ne e] at h ⊢; exact b.sub a u h
  · have h : upd g.F p o a = some (.tbl ps) := h
    by_cases e : a = p
    · subst e; rw [upd_same] at h; exact ho ps (Option.some.inj h)
    · rw [upd_ne e] at h; exact b.ntb a ps h
  · have h : upd g.F p o a = some u := h
    by_cases e : a = p
    · subst e; exact .inr hp
    · rw [upd_ne e] at h; exact .inl h
  · obtain ⟨h1, sa, ns, i, j, k, h2, h3, h4⟩ := b.row r h
    have hr : r ≠ p := ne_of_none h2 hp
    exact ⟨by show upd g.F p o r = none; rw [upd_ne hr]; exact h1, sa, ns, i, j, k, ex _ _ h2, sqL_mono (fun u e => by show upd g.F p o sa = some u; rw [upd_ne (ne_of_none e nF)]; exact e) h3, h4⟩
  · cases q : H a with
    | none => exact absurd q h
    | some u => rw [ex a u q]; exact fun z => nomatch z
  · exact b.tab.1.ext ex
  · obtain ⟨ps, h1, h2⟩ := b.tab.2 P hP
    exact ⟨ps, ex _ _ h1, h2⟩
/-- the tables grow -/
theorem Base.tabs (b : Good c g H) (e : LamX.ExtN H H') (th : ∀ a, H a ≠ none → H' a ≠ none) (t1 : LamX.Tabs c.T H') (t2 : ∀ P ∈ c.G, GxR.TabG H' P) : Base c g H g H' := by
  have nt : ∀ a o, g.F a = some o → ∀ ps, o ≠ .tbl ps := fun a o h ps z => b.ntb a ps (by rw [h, z])
  refine ⟨g.le_refl, fun a o h => e a o (b.sub a o h) (nt a o h), b.ntb, fun _ _ h => .inl h, fun r h => ?_, fun _ h => .inl h, th, fun a o h _ t => e a o h t, t1, t2⟩
  obtain ⟨h1, sa, ns, i, j, k, h2, h3, h4⟩ := b.row r h
  exact ⟨h1, sa, ns, i, j, k, e _ _ h2 (fun _ => nofun), h3, h4⟩
end
/-! ### readings -/
abbrev XD := Addr → List (Str × D) → Prop
abbrev DW := List Cell → (D → List Cell → Prop) → XD → Prop
abbrev DT := List Cell → (Bool → List Cell → Prop) → XD → Prop
abbrev DA := List Cell → (List D → List Cell → Prop) → XD → Prop
structure DK where
  nx : List Cell → Prop
  rt : D → List Cell → Prop
  bk : List Cell → Prop := fun _ => False
  ct : List Cell → Prop := fun _ => False
abbrev DS := List Cell → DK → XD → Prop
abbrev DG := D → List Cell → (List Cell → Prop) → XD → Prop
abbrev DGs := List D → List Cell → (List Cell → Prop) → XD → Prop
/-- what a raised error is wanted to satisfy, told in data -/
def ExcK (c : Cfg) (g0 : Gh) (H0 : Hp) (ex : XD) (E : XK) : Prop := ∀ C fs g' H' dd xfs, ex C fs → Base c g0 H0 g' H' → H' dd = some (.xd xfs) → xfs.map (·.1) = fs.map (·.1) → Reps c.K g' (xfs.map (·.2)) (fs.map (·.2)) → E (.ref C) (some dd) H'
def liftE (c : Cfg) (E : XK) (td : DW) : TE := fun σ H Q => ∃ g0 H0 g ρ τ q ex, StD c g0 H0 g H ρ σ τ ∧ td ρ q ex ∧ ExcK c g0 H0 ex E ∧
  ∀ d ρ' v g' H', q d ρ' → g.le g' → StD c g0 H0 g' H' ρ' σ τ → Rep c.K g' v d → Q v H'
def liftT (c : Cfg) (E : XK) (td : DT) : TT := fun σ H Q => ∃ g0 H0 g ρ τ q ex, StD c g0 H0 g H ρ σ τ ∧ td ρ q ex ∧ ExcK c g0 H0 ex E ∧
  ∀ b ρ' g' H', q b ρ' → g.le g' → StD c g0 H0 g' H' ρ' σ τ → Q b H'
def liftA (c : Cfg) (E : XK) (td : DA) : TA := fun σ H Q => ∃ g0 H0 g ρ τ q ex, StD c g0 H0 g H ρ σ τ ∧ td ρ q ex ∧ ExcK c g0 H0 ex E ∧
  ∀ ds ρ' vs g' H', q ds ρ' → g.le g' → StD c g0 H0 g' H' ρ' σ τ → Reps c.K g' vs ds → Q vs H'
def liftS (c : Cfg) (E : XK) (td : DS) : TS := fun N σ H => ∃ g0 H0 g ρ τ k ex, StD c g0 H0 g H ρ σ τ ∧ td ρ k ex ∧ ExcK c g0 H0 ex E ∧
  (∀ ρ' σ' g' H', k.nx ρ' → g.le g' → StD c g0 H0 g' H' ρ' σ' τ → N.nx σ' H') ∧ (∀ d v ρ' σ' g' H', k.rt d ρ' → g.le g' → StD c g0 H0 g' H' ρ' σ' τ → Rep c.K g' v d → N.rt v H') ∧
  (∀ ρ' σ' g' H', k.bk ρ' → g.le g' → StD c g0 H0 g' H' ρ' σ' τ → N.bk σ' H') ∧ (∀ ρ' σ' g' H', k.ct ρ' → g.le g' → StD c g0 H0 g' H' ρ' σ' τ → N.ct σ' H')
/-- a target: only the slots in ws change -/
def liftG (c : Cfg) (E : XK) (ws : List Nat) (td : DG) : TG := fun v σ H Q => ∃ g0 H0 g ρ τ d q ex, StD c g0 H0 g H ρ σ τ ∧ Rep c.K g v d ∧ td d ρ q ex ∧ ExcK c g0 H0 ex E ∧
  ∀ ρ' σ' g' H', q ρ' → g.le g' → StD c g0 H0 g' H' ρ' σ' τ → (σ'.length = σ.length ∧ ∀ i, i ∉ ws → σ'[i]? = σ[i]?) → Q σ' H'
def liftGs (c : Cfg) (E : XK) (ws : List Nat) (td : DGs) : TGs := fun vs σ H Q => ∃ g0 H0 g ρ τ ds q ex, StD c g0 H0 g H ρ σ τ ∧ Reps c.K g vs ds ∧ td ds ρ q ex ∧ ExcK c g0 H0 ex E ∧
  ∀ ρ' σ' g' H', q ρ' → g.le g' → StD c g0 H0 g' H' ρ' σ' τ → (σ'.length = σ.length ∧ ∀ i, i ∉ ws → σ'[i]? = σ[i]?) → Q σ' H'
/-- nothing is let out -/
abbrev xno : XK := fun _ _ _ => False
theorem _root_.L2.PE.imp {X : Cx} {e : Expr} {t t' : TE} (h : PE X e t) (i : ∀ σ H Q, t' σ H Q → t σ H Q) : PE X e t' := ⟨fun pins s σ H Q I w => h.run pins s σ H Q I (i σ H Q w)⟩
theorem _root_.L2.PT.imp {X : Cx} {e : Expr} {t t' : TT} (h : PT X e t) (i : ∀ σ H Q, t' σ H Q → t σ H Q) : PT X e t' := ⟨fun pins s σ H Q I w => h.run pins s σ H Q I (i σ H Q w)⟩
theorem _root_.L2.PW.imp {X : Cx} {e : Expr} {t t' : TT} (h : PW X e t) (i : ∀ σ H Q, t' σ H Q → t σ H Q) : PW X e t' := ⟨fun wh pins s σ H Q I w => h.run wh pins s σ H Q I (i σ H Q w)⟩
theorem _root_.L2.PA.imp {X : Cx} {e : List Expr} {t t' : TA} (h : PA X e t) (i : ∀ σ H Q, t' σ H Q → t σ H Q) : PA X e t' := ⟨fun pos pins s σ H Q I w => h.run pos pins s σ H Q I (i σ H Q w)⟩
theorem _root_.L2.PS.imp {X : Cx} {e : Stmt} {t t' : TS} (h : PS X e t) (i : ∀ N σ H, t' N σ H → t N σ H) : PS X e t' := ⟨fun pins s σ H N I w => h.run pins s σ H N I (i N σ H w)⟩
theorem _root_.L2.PSs.imp {X : Cx} {e : List Stmt} {t t' : TS} (h : PSs X e t) (i : ∀ N σ H, t' N σ H → t N σ H) : PSs X e t' := ⟨fun pins s σ H N I w => h.run pins s σ H N I (i N σ H w)⟩
theorem _root_.L2.PG.imp {X : Cx} {e : Expr} {t t' : TG} (h : PG X e t) (i : ∀ v σ H Q, t' v σ H Q → t v σ H Q) : PG X e t' := ⟨fun pins s σ H v u Q I r w => h.run pins s σ H v u Q I r (i v σ H Q w)⟩
abbrev PD (X : Cx) (c : Cfg) (E : XK) (e : Expr) (td : DW) : Prop := PE X e (liftE c E td)
abbrev PDT (X : Cx) (c : Cfg) (E : XK) (e : Expr) (td : DT) : Prop := PT X e (liftT c E td)
abbrev PDW (X : Cx) (c : Cfg) (E : XK) (e : Expr) (td : DT) : Prop := PW X e (liftT c E td)
abbrev PDA (X : Cx) (c : Cfg) (E : XK) (es : List Expr) (td : DA) : Prop := PA X es (liftA c E td)
abbrev PDS (X : Cx) (c : Cfg) (E : XK) (st : Stmt) (td : DS) : Prop := PS X st (liftS c E td)
abbrev PDSs (X : Cx) (c : Cfg) (E : XK) (st : List Stmt) (td : DS) : Prop := PSs X st (liftS c E td)
abbrev PDG (X : Cx) (c : Cfg) (E : XK) (ws : List Nat) (e : Expr) (td : DG) : Prop := PG X e (liftG c E ws td)
abbrev PDGs (X : Cx) (c : Cfg) (E : XK) (ws : List Nat) (es : List Expr) (td : DGs) : Prop := PGs X es (liftGs c E ws td)
theorem _root_.L2.PGs.imp {X : Cx} {e : List Expr} {t t' : TGs} (h : PGs X e t) (i : ∀ v σ H Q, t' v σ H Q → t v σ H Q) : PGs X e t' := ⟨fun pins s σ H v u Q I r w => h.run pins s σ H v u Q I r (i v σ H Q w)⟩
end D7
namespace D7
open PySem PySem.Spec PyProof.Rows L2
/-! ### operations on data -/
/-- readable: frozen, or a def's own object with frozen things in it -/
inductive Sh (K : PySem.W.Frag) (g : Gh) (H : Hp) : V → D → Prop
  | rep {v : V} {d : D} : Rep K g v d → Sh K g H v d
  | lst {a : Addr} {xs : List V} {ds : List D} : H a = some (.lst xs) → Reps K g xs ds → Sh K g H (.ref a) (.lst ds)
  | set {a : Addr} {S : Int → Bool} {n : Nat} : H a = some (.set S n) → Sh K g H (.ref a) (.set S n)
  | dic {a : Addr} {kvs : List (Key × V)} {ds : List (Key × D)} : H a = some (.dK kvs) → kvs.map (·.1) = ds.map (·.1) → Reps K g (kvs.map (·.2)) (ds.map (·.2)) → Sh K g H (.ref a) (.dic ds)
  | dtu {a : Addr} {kvs : List (List Key × V)} {ds : List (List Key × D)} : H a = some (.dT kvs) → kvs.map (·.1) = ds.map (·.1) → Reps K g (kvs.map (·.2)) (ds.map (·.2)) → Sh K g H (.ref a) (.dtu ds)
  | obj {a C dx : Addr} {fs : List (Str × V)} {ds : List (Str × D)} : H a = some (.ins C dx fs) → fs.map (·.1) = ds.map (·.1) → Reps K g (fs.map (·.2)) (ds.map (·.2)) → Sh K g H (.ref a) (.obj C ds)
inductive Shs (K : PySem.W.Frag) (g : Gh) (H : Hp) : List V → List D → Prop
  | nil : Shs K g H [] []
  | cons {v : V} {vs : List V} {d : D} {ds : List D} : Sh K g H v d → Shs K g H vs ds → Shs K g H (v :: vs) (d :: ds)
/-- what happens next, for an operation that only makes new things -/
abbrev Next (c : Cfg) (g : Gh) (H : Hp) (p : D → Prop) (Q : VK) : Prop := ∀ z v g' H', p z → Base c g H g' H' → Rep c.K g' v z → Q v H'
def OpD (c : Cfg) (r : R2) (k : D → D → (D → Prop) → Prop) : Prop := ∀ g H x y d e p Q, Good c g H → Sh c.K g H x d → Sh c.K g H y e → k d e p → Next c g H p Q → r x y H Q
def UnD (c : Cfg) (r : V → Hp → VK → Prop) (k : D → (D → Prop) → Prop) : Prop := ∀ g H x d p Q, Good c g H → Sh c.K g H x d → k d p → Next c g H p Q → r x H Q
def CallD (c : Cfg) (r : List V → Hp → VK → Prop) (k : List D → (D → Prop) → Prop) : Prop := ∀ g H xs ds p Q, Good c g H → Shs c.K g H xs ds → k ds p → Next c g H p Q → r xs H Q
section
variable {c : Cfg} {g : Gh} {H : Hp} {p : D → Prop} {Q : VK}
theorem Next.same (n : Next c g H p Q) (b : Good c g H) {z : D} {v : V} (h : p z) (r : Rep c.K g v z) : Q v H := n z v g H h b r
theorem rep_tup {a : Addr} {xs : List V} {ds : List D} (b : Good c g H) (hn : H a = none) (r : Reps c.K g xs ds) : Rep c.K ⟨upd g.F a (.tup xs), g.rw⟩ (.ref a) (.tup ds) :=
  .tup (.inl (.inl upd_same)) (r.mono (b.alloc (o := .tup xs) hn (fun _ => nofun)).le)
theorem rep_lst {a : Addr} {xs : List V} {ds : List D} (b : Good c g H) (hn : H a = none) (r : Reps c.K g xs ds) : Rep c.K ⟨upd g.F a (.lst xs), g.rw⟩ (.ref a) (.lst ds) :=
  .lst upd_same (r.mono (b.alloc (o := .lst xs) hn (fun _ => nofun)).le)
/-- a new tuple; a new list -/
theorem Next.tup (n : Next c g H p Q) (b : Good c g H) {xs : List V} {ds : List D} (h : p (.tup ds)) (r : Reps c.K g xs ds) (a : Addr) (ha : H a = none) : Q (.ref a) (upd H a (.tup xs)) :=
  n _ _ _ _ h (b.alloc ha (fun _ => nofun)) (rep_tup b ha r)
theorem Next.lst (n : Next c g H p Q) (b : Good c g H) {xs : List V} {ds : List D} (h : p (.lst ds)) (r : Reps c.K g xs ds) (a : Addr) (ha : H a = none) : Q (.ref a) (upd H a (.lst xs)) :=
  n _ _ _ _ h (b.alloc ha (fun _ => nofun)) (rep_lst b ha r)
theorem Base.sqT (b : Good c g H) {a : Addr} {xs : List V} (h : SqT c.K g.F a xs) : SqT c.K H a xs := sqT_mono (b.sub a) h
theorem Sh.int {v : V} {i : Int} (h : Sh c.K g H v (.int i)) : v = .int i := by cases h with | rep r => cases r; rfl
theorem Sh.bl {v : V} {i : Bool} (h : Sh c.K g H v (.bl i)) : v = .bl i := by cases h with | rep r => cases r; rfl
theorem Sh.non {v : V} (h : Sh c.K g H v .non) : v = .non := by cases h with | rep r => cases r; rfl
theorem Sh.str {v : V} {x : Str} (h : Sh c.K g H v (.str x)) : v = .str x := by cases h with | rep r => cases r; rfl
theorem Sh.tup {v : V} {ds : List D} (h : Sh c.K g H v (.tup ds)) : ∃ a xs, v = .ref a ∧ SqT c.K g.F a xs ∧ Reps c.K g xs ds := by
  cases h with | rep r => cases r with | tup h r => exact ⟨_, _, rfl, h, r⟩
theorem Sh.lst' {v : V} {ds : List D} (b : Good c g H) (h : Sh c.K g H v (.lst ds)) : ∃ a xs, v = .ref a ∧ H a = some (.lst xs) ∧ Reps c.K g xs ds := by
  cases h with
  | rep r => cases r with | lst h r => exact ⟨_, _, rfl, b.sub _ _ h, r⟩
  | lst h r => exact ⟨_, _, rfl, h, r⟩
theorem Sh.set' {v : V} {S : Int → Bool} {n : Nat} (b : Good c g H) (h : Sh c.K g H v (.set S n)) : ∃ a, v = .ref a ∧ H a = some (.set S n) := by
  cases h with
  | rep r => cases r with | set h => exact ⟨_, rfl, b.sub _ _ h⟩
  | set h => exact ⟨_, rfl, h⟩
theorem Sh.dic' {v : V} {ds : List (Key × D)} (b : Good c g H) (h : Sh c.K g H v (.dic ds)) : ∃ a kvs, v = .ref a ∧ H a = some (.dK kvs) ∧ kvs.map (·.1) = ds.map (·.1) ∧ Reps c.K g (kvs.map (·.2)) (ds.map (·.2)) := by
  cases h with
  | rep r => cases r with | dic h e r => exact ⟨_, _, rfl, b.sub _ _ h, e, r⟩
  | dic h e r => exact ⟨_, _, rfl, h, e, r⟩
theorem Sh.dtu' {v : V} {ds : List (List Key × D)} (b : Good c g H) (h : Sh c.K g H v (.dtu ds)) : ∃ a kvs, v = .ref a ∧ H a = some (.dT kvs) ∧ kvs.map (·.1) = ds.map (·.1) ∧ Reps c.K g (kvs.map (·.2)) (ds.map (·.2)) := by
  cases h with
  | rep r => cases r with | dtu h e r => exact ⟨_, _, rfl, b.sub _ _ h, e, r⟩
  | dtu h e r => exact ⟨_, _, rfl, h, e, r⟩
theorem Sh.obj' {v : V} {C : Addr} {ds : List (Str × D)} (b : Good c g H) (h : Sh c.K g H v (.obj C ds)) : ∃ a dx fs, v = .ref a ∧ H a = some (.ins C dx fs) ∧ fs.map (·.1) = ds.map (·.1) ∧ Reps c.K g (fs.map (·.2)) (ds.map (·.2)) := by
  cases h with
  | rep r => cases r with | obj h e r => exact ⟨_, _, _, rfl, b.sub _ _ h, e, r⟩
  | obj h e r => exact ⟨_, _, _, rfl, h, e, r⟩
end
/-! ### arithmetic -/
def kI0 (f : Int → Int → D) : D → D → (D → Prop) → Prop := fun d e p => match d, e with
  | .int i, .int j => p (f i j)
  | _, _ => False
def kI (C : Int → Int → Prop) (f : Int → Int → D) : D → D → (D → Prop) → Prop := fun d e p => match d, e with
  | .int i, .int j => C i j ∧ p (f i j)
  | _, _ => False
theorem opd_I0 {c : Cfg} {f : Int → Int → Int} : OpD c (rI0 fun i j => .int (f i j)) (kI0 fun i j => .int (f i j)) := by
  intro g H x y d e p Q b rx ry h n
  cases d <;> cases e <;> first | exact h.elim | exact ⟨_, _, rx.int, ry.int, n.same b h (.int _)⟩
theorem opd_B0 {c : Cfg} {f : Int → Int → Bool} : OpD c (rI0 fun i j => .bl (f i j)) (kI0 fun i j => .bl (f i j)) := by
  intro g H x y d e p Q b rx ry h n
  cases d <;> cases e <;> first | exact h.elim | exact ⟨_, _, rx.int, ry.int, n.same b h (.bl _)⟩
theorem opd_I {c : Cfg} {C : Int → Int → Prop} {f : Int → Int → Int} : OpD c (rI C fun i j => .int (f i j)) (kI C fun i j => .int (f i j)) := by
  intro g H x y d e p Q b rx ry h n
  cases d <;> cases e <;> first | exact h.elim | exact ⟨_, _, rx.int, ry.int, h.1, n.same b h.2 (.int _)⟩
/-- a + b: ints, tuples, lists -/
def kAdd : D → D → (D → Prop) → Prop := fun d e p => match d, e with
  | .int i, .int j => p (.int (i + j))
  | .tup xs, .tup ys => xs.length + ys.length ≤ sizeLine ∧ p (.tup (xs ++ ys))
  | .lst xs, .lst ys => xs.length + ys.length ≤ sizeLine ∧ p (.lst (xs ++ ys))
  | _, _ => False
def rAddD (K : PySem.W.Frag) : R2 := fun x y H Q => rI0 (fun i j => .int (i + j)) x y H Q ∨ rCatA K x y H Q ∨ rCat x y H Q
theorem op_addD {X : Cx} : OpR X (binaryOp .Add) (rAddD X.K) := op_add.or (op_catA.or op_cat)
theorem opd_add {c : Cfg} : OpD c (rAddD c.K) kAdd := by
  intro g H x y d e p Q b rx ry h n
  cases d <;> cases e <;> first | exact h.elim | skip
  · exact .inl ⟨_, _, rx.int, ry.int, n.same b h (.int _)⟩
  · obtain ⟨a, xs, e1, hx, rs⟩ := rx.lst' b
    obtain ⟨a2, ys, e2, hy, rt⟩ := ry.lst' b
    obtain ⟨hz, hp⟩ := h
    exact .inr (.inr ⟨a, a2, xs, ys, e1, e2, hx, hy, by rw [rs.length, rt.length]; exact hz, fun q hq => n.lst b hp (rs.append rt) q hq⟩)
  · obtain ⟨a, xs, e1, hx, rs⟩ := rx.tup
    obtain ⟨a2, ys, e2, hy, rt⟩ := ry.tup
    obtain ⟨hz, hp⟩ := h
    refine .inr (.inl ⟨a, a2, xs, ys, e1, e2, b.sqT hx, b.sqT hy, by rw [rs.length, rt.length]; exact hz, fun e => ?_, fun _ e => ?_, fun _ _ q hq => n.tup b hp (rs.append rt) q hq⟩)
    · subst e; cases rs
      exact n.same b hp (.tup hy rt)
    · subst e; cases rt
      rw [List.append_nil] at hp
      exact n.same b hp (.tup hx rs)
/-- a * b: ints, a list so many times -/
def kMul : D → D → (D → Prop) → Prop := fun d e p => match d, e with
  | .int i, .int j => CMul i j ∧ p (.int (i * j))
  | .lst xs, .int k => -(2 ^ 63) ≤ k ∧ k < 2 ^ 63 ∧ xs.length * k.toNat ≤ sizeLine ∧ p (.lst (List.replicate k.toNat xs).flatten)
  | _, _ => False
def rMulD : R2 := fun x y H Q => rI CMul (fun i j => .int (i * j)) x y H Q ∨ rRep x y H Q
theorem op_mulD {X : Cx} : OpR X (binaryOp .Mult) rMulD := op_mul.or op_rep
theorem Reps.rep {K : PySem.W.Frag} {g : Gh} {vs : List V} {ds : List D} (r : Reps K g vs ds) : ∀ k : Nat, Reps K g (List.replicate k vs).flatten (List.replicate k ds).flatten
  | 0 => .nil
  | k + 1 => by
    rw [List.replicate_succ, List.replicate_succ, List.flatten_cons, List.flatten_cons]
    exact r.append (r.rep k)
theorem opd_mul {c : Cfg} : OpD c rMulD kMul := by
  intro g H x y d e p Q b rx ry h n
  cases d <;> cases e <;> first | exact h.elim | skip
  · exact .inl ⟨_, _, rx.int, ry.int, h.1, n.same b h.2 (.int _)⟩
  · obtain ⟨a, xs, e1, hx, rs⟩ := rx.lst' b
    obtain ⟨h1, h2, h3, hp⟩ := h
    refine .inr ⟨a, _, xs, e1, ry.int, hx, h1, h2, by rw [rs.length]; exact h3, ?_⟩
    exact fun q hq => n.lst b hp (rs.rep _) q hq
/-! ### equality -/
mutual
def eqD : D → D → Bool
  | .non, .non => true
  | .bl a, .bl b => a == b
  | .bl a, .int j => (if a then 1 else 0) == j
  | .int i, .bl b => i == (if b then 1 else 0)
  | .int i, .int j => i == j
  | .str x, .str y => x == y
  | .lst xs, .lst ys => eqDs xs ys
  | .tup xs, .tup ys => eqDs xs ys
  | _, _ => false
def eqDs : List D → List D → Bool
  | [], [] => true
  | x :: xs, y :: ys => eqD x y && eqDs xs ys
  | _, _ => false
end
mutual
/-- plain data, nested no deeper than n -/
def okD : Nat → D → Bool
  | _, .non => true
  | _, .bl _ => true
  | _, .int _ => true
  | _, .str x => PyData.strOk x
  | n + 1, .lst ds => okDs n ds
  | n + 1, .tup ds => okDs n ds
  | _, _ => false
def okDs : Nat → List D → Bool
  | _, [] => true
  | n, d :: ds => okD n d && okDs n ds
end
mutual
def toP : D → PyData
  | .non => .none
  | .bl b => .bool b
  | .int i => .int i
  | .str x => .str x
  | .lst ds => .list (toPs ds)
  | .tup ds => .tuple (toPs ds)
  | _ => .none
def toPs : List D → List PyData
  | [] => []
  | d :: ds => toP d :: toPs ds
end
mutual
theorem okD_lay : ∀ (n : Nat) (d : D), okD n d = true → (toP d).canLay0 = true ∧ (toP d).depth ≤ n
  | n, .non, _ => by simp [toP, PyData.canLay0, PyData.depth]
  | n, .bl _, _ => by simp [toP, PyData.canLay0, PyData.depth]
  | n, .int _, _ => by simp [toP, PyData.canLay0, PyData.depth]
  | n, .str x, h => by
    have h : PyData.strOk x = true := by cases n <;> simpa [okD] using h
    simp [toP, PyData.canLay0, PyData.depth, h]
  | n + 1, .lst ds, h => by
    have h : okDs n ds = true := by simpa [okD] using h
    have := okDs_lay n ds h
    simp only [toP, PyData.canLay0, PyData.depth]
    exact ⟨this.1, Nat.succ_le_succ this.2⟩
  | n + 1, .tup ds, h => by
    have h : okDs n ds = true := by simpa [okD] using h
    have := okDs_lay n ds h
    simp only [toP, PyData.canLay0, PyData.depth]
    exact ⟨this.1, Nat.succ_le_succ this.2⟩
  | 0, .lst ds, h => by simp [okD] at h
  | 0, .tup ds, h => by simp [okD] at h
  | 0, .set _ _, h => by simp [okD] at h
  | 0, .dic _, h => by simp [okD] at h
  | 0, .dtu _, h => by simp [okD] at h
  | 0, .obj _ _, h => by simp [okD] at h
  | 0, .row, h => by simp [okD] at h
  | 0, .scr _, h => by simp [okD] at h
  | n + 1, .set _ _, h => by simp [okD] at h
  | n + 1, .dic _, h => by simp [okD] at h
  | n + 1, .dtu _, h => by simp [okD] at h
  | n + 1, .obj _ _, h => by simp [okD] at h
  | n + 1, .row, h => by simp [okD] at h
  | n + 1, .scr _, h => by simp [okD] at h
theorem okDs_lay : ∀ (n : Nat) (ds : List D), okDs n ds = true → PyData.canLayAll0 (toPs ds) = true ∧ PyData.depthAll (toPs ds) ≤ n
  | n, [], _ => by simp [toPs, PyData.canLayAll0, PyData.depthAll]
  | n, d :: ds, h => by
    have h : okD n d = true ∧ okDs n ds = true := by simpa [okDs] using h
    have h1 := okD_lay n d h.1
    have h2 := okDs_lay n ds h.2
    simp only [toPs, PyData.canLayAll0, PyData.depthAll, Bool.and_eq_true]
    exact ⟨⟨h1.1, h2.1⟩, Nat.max_le.mpr ⟨h1.2, h2.2⟩⟩
end
theorem okD_shaped {n : Nat} {d : D} (h : okD n d = true) (hn : n ≤ 64) : SeqAt.shaped (toP d) = true := by
  have := okD_lay n d h
  unfold SeqAt.shaped
  rw [this.1, Bool.true_and]
  exact decide_eq_true (Nat.le_trans this.2 hn)
mutual
theorem eqD_eqv : ∀ (n m : Nat) (d e : D), okD n d = true → okD m e = true → PyData.eqv (toP d) (toP e) = eqD d e
  | n, m, d, e, h, k => by
    cases d <;> cases e <;> first
      | (simp only [toP, PyData.eqv, eqD]; done)
      | (exfalso; cases n <;> simp [okD] at h; done)
      | (exfalso; cases m <;> simp [okD] at k; done)
      | skip
    · rename_i xs ys
      cases n with
      | zero => simp [okD] at h
      | succ n =>
        cases m with
        | zero => simp [okD] at k
        | succ m =>
          simp only [toP, PyData.eqv, eqD]
          exact eqDs_eqv n m xs ys (by simpa [okD] using h) (by simpa [okD] using k)
    · rename_i xs ys
      cases n with
      | zero => simp [okD] at h
      | succ n =>
        cases m with
        | zero => simp [okD] at k
        | succ m =>
          simp only [toP, PyData.eqv, eqD]
          exact eqDs_eqv n m xs ys (by simpa [okD] using h) (by simpa [okD] using k)
theorem eqDs_eqv : ∀ (n m : Nat) (ds es : List D), okDs n ds = true → okDs m es = true → PyData.eqvAll (toPs ds) (toPs es) = eqDs ds es
  | n, m, [], [], _, _ => by simp [toPs, PyData.eqvAll, eqDs]
  | n, m, [], _ :: _, _, _ => by simp [toPs, PyData.eqvAll, eqDs]
  | n, m, _ :: _, [], _, _ => by simp [toPs, PyData.eqvAll, eqDs]
  | n, m, d :: ds, e :: es, h, k => by
    have h : okD n d = true ∧ okDs n ds = true := by simpa [okDs] using h
    have k : okD m e = true ∧ okDs m es = true := by simpa [okDs] using k
    simp only [toPs, PyData.eqvAll, eqDs]
    rw [eqD_eqv n m d e h.1 k.1, eqDs_eqv n m ds es h.2 k.2]
end
mutual
theorem Rep.dp {K : PySem.W.Frag} {g : Gh} {H : Hp} (s : ∀ a o, g.F a = some o → H a = some o) : ∀ {n : Nat} {v : V} {d : D}, Rep K g v d → okD n d = true → Dp K H v (toP d)
  | _, _, _, .non, _ => by simp only [toP]; exact .non
  | _, _, _, .bl b, _ => by simp only [toP]; exact .bl b
  | _, _, _, .int i, _ => by simp only [toP]; exact .int i
  | _, _, _, .str x, _ => by simp only [toP]; exact .str x
  | n, _, _, .lst h r, k => by
    simp only [toP]
    cases n with
    | zero => simp [okD] at k
    | succ n => exact .lst (.inl (.inl (s _ _ h))) (Reps.dp (n := n) s r (by simpa [okD] using k))
  | n, _, _, .tup h r, k => by
    simp only [toP]
    cases n with
    | zero => simp [okD] at k
    | succ n => exact .tup (sqT_mono (s _) h) (Reps.dp (n := n) s r (by simpa [okD] using k))
  | n, _, _, .set _, k => by cases n <;> simp [okD] at k
  | n, _, _, .dic _ _ _, k => by cases n <;> simp [okD] at k
  | n, _, _, .dtu _ _ _, k => by cases n <;> simp [okD] at k
  | n, _, _, .obj _ _ _, k => by cases n <;> simp [okD] at k
  | n, _, _, .row _, k => by cases n <;> simp [okD] at k
  | n, _, _, .scr _, k => by cases n <;> simp [okD] at k
theorem Reps.dp {K : PySem.W.Frag} {g : Gh} {H : Hp} (s : ∀ a o, g.F a = some o → H a = some o) : ∀ {n : Nat} {vs : List V} {ds : List D}, Reps K g vs ds → okDs n ds = true → DpAll K H vs (toPs ds)
  | _, _, _, .nil, _ => by simp only [toPs]; exact .nil
  | n, _, _, .cons h r, k => by
    have k := k
    simp only [okDs, Bool.and_eq_true] at k
    simp only [toPs]
    exact .cons (Rep.dp (n := n) s h k.1) (Reps.dp (n := n) s r k.2)
end
theorem Sh.dp {c : Cfg} {g : Gh} {H : Hp} (b : Good c g H) {n : Nat} {v : V} {d : D} (h : Sh c.K g H v d) (k : okD n d = true) : Dp c.K H v (toP d) := by
  cases h with
  | rep r => exact r.dp b.sub k
  | lst h r =>
    simp only [toP]
    cases n with
    | zero => simp [okD] at k
    | succ n => exact .lst (.inl (.inl h)) (Reps.dp (n := n) b.sub r (by simpa [okD] using k))
  | set h => cases n <;> simp [okD] at k
  | dic h _ _ => cases n <;> simp [okD] at k
  | dtu h _ _ => cases n <;> simp [okD] at k
  | obj h _ _ => cases n <;> simp [okD] at k
def kEq : D → D → (D → Prop) → Prop := fun d e p => okD 60 d = true ∧ okD 60 e = true ∧ p (.bl (eqD d e))
def kNe : D → D → (D → Prop) → Prop := fun d e p => okD 60 d = true ∧ okD 60 e = true ∧ p (.bl (!eqD d e))
theorem opd_eq {c : Cfg} : OpD c (rEqD c.K) kEq := by
  intro g H x y d e p Q b rx ry h n
  obtain ⟨h1, h2, h3⟩ := h
  refine ⟨toP d, toP e, rx.dp b h1, ry.dp b h2, okD_shaped h1 (by decide), okD_shaped h2 (by decide), ?_⟩
  rw [eqD_eqv _ _ d e h1 h2]
  exact n.same b h3 (.bl _)
theorem opd_ne {c : Cfg} : OpD c (rNeD c.K) kNe := by
  intro g H x y d e p Q b rx ry h n
  obtain ⟨h1, h2, h3⟩ := h
  refine ⟨toP d, toP e, rx.dp b h1, ry.dp b h2, okD_shaped h1 (by decide), okD_shaped h2 (by decide), ?_⟩
  rw [eqD_eqv _ _ d e h1 h2]
  exact n.same b h3 (.bl _)
/-! ### order -/
def asInts : List D → Option (List Int)
  | [] => some []
  | .int i :: ds => (asInts ds).map (i :: ·)
  | _ :: _ => none
theorem asInts_some : ∀ {ds : List D} {ns : List Int}, asInts ds = some ns → ds = ns.map D.int
  | [], _, h => by cases h; rfl
  | d :: ds, ns, h => by
    cases d <;> first | (cases h; done) | skip
    rename_i i
    have h : (asInts ds).map (i :: ·) = some ns := h
    obtain ⟨ms, h1, h2⟩ := Option.map_eq_some_iff.mp h
    subst h2
    rw [asInts_some h1]
    rfl
theorem asInts_map : ∀ ns : List Int, asInts (ns.map D.int) = some ns
  | [] => rfl
  | n :: ns => by
    show (asInts (ns.map D.int)).map (n :: ·) = _
    rw [asInts_map ns]
    rfl
def kLt : D → D → (D → Prop) → Prop := fun d e p => match d, e with
  | .int i, .int j => p (.bl (decide (i < j)))
  | .tup xs, .tup ys => ∃ ns ms, asInts xs = some ns ∧ asInts ys = some ms ∧ p (.bl (HT.lexLt ns ms))
  | _, _ => False
def rLtD (K : PySem.W.Frag) : R2 := fun x y H Q => rI0 (fun i j => .bl (decide (i < j))) x y H Q ∨ rLtT K x y H Q
theorem op_ltD {X : Cx} (hu : X.A.units < cLine) : OpR X (compareOp .Lt) (rLtD X.K) := op_lt.or (op_ltT hu)
theorem opd_lt {c : Cfg} : OpD c (rLtD c.K) kLt := by
  intro g H x y d e p Q b rx ry h n
  cases d <;> cases e <;> first | exact h.elim | skip
  · exact .inl ⟨_, _, rx.int, ry.int, n.same b h (.bl _)⟩
  · obtain ⟨a, xs, e1, hx, rs⟩ := rx.tup
    obtain ⟨a2, ys, e2, hy, rt⟩ := ry.tup
    obtain ⟨ns, ms, h1, h2, h3⟩ := h
    have z1 := asInts_some h1
    have z2 := asInts_some h2
    subst z1 z2
    have z3 := rs.ints
    have z4 := rt.ints
    subst z3 z4
    exact .inr ⟨a, a2, ns, ms, e1, e2, b.sqT hx, b.sqT hy, n.same b h3 (.bl _)⟩
/-! ### is -/
def kIs (neg : Bool) : D → D → (D → Prop) → Prop := fun d e p => match d, e with
  | .bl a, .bl k => p (.bl (xor neg (decide (a = k))))
  | d, .non => p (.bl (xor neg (match d with | .non => true | _ => false)))
  | _, _ => False
def rIsD : R2 := fun x y H Q => rIsB x y H Q ∨ (y = .non ∧ Q (.bl (decide (x = .non))) H)
def rNotD : R2 := fun x y H Q => rNotB x y H Q ∨ (y = .non ∧ Q (.bl (!decide (x = .non))) H)
theorem op_isD {X : Cx} : OpR X (compareOp .Is) rIsD := op_isBl.or op_isN
theorem op_isNotD {X : Cx} : OpR X (compareOp .IsNot) rNotD := op_notBl.or op_notN
theorem opd_is {c : Cfg} : OpD c rIsD (kIs false) := by
  intro g H x y d e p Q b rx ry h n
  have nn : ∀ {d : D}, d ≠ .non → Sh c.K g H x d → x ≠ .non := fun {d} hd r z => by
    subst z
    cases r with | rep r => cases r; exact hd rfl
  cases e <;> first | (cases d <;> exact h.elim) | skip
  · refine .inr ⟨ry.non, ?_⟩
    cases d <;> first
      | (rw [rx.non]; exact n.same b h (.bl _))
      | (rw [decide_eq_false (nn (by simp) rx)]; exact n.same b (by simpa [kIs] using h) (.bl _))
  · cases d <;> first | exact h.elim | exact .inl ⟨_, _, rx.bl, ry.bl, n.same b (by simpa [kIs] using h) (.bl _)⟩
theorem opd_isNot {c : Cfg} : OpD c rNotD (kIs true) := by
  intro g H x y d e p Q b rx ry h n
  have nn : ∀ {d : D}, d ≠ .non → Sh c.K g H x d → x ≠ .non := fun {d} hd r z => by
    subst z
    cases r with | rep r => cases r; exact hd rfl
  cases e <;> first | (cases d <;> exact h.elim) | skip
  · refine .inr ⟨ry.non, ?_⟩
    cases d <;> first
      | (rw [rx.non]; exact n.same b h (.bl _))
      | (rw [decide_eq_false (nn (by simp) rx)]; exact n.same b (by simpa [kIs] using h) (.bl _))
  · cases d <;> first | exact h.elim | exact .inl ⟨_, _, rx.bl, ry.bl, n.same b (by simpa [kIs] using h) (.bl _)⟩
end D7
namespace D7
open PySem PySem.Spec PyProof.Rows L2
/-- a test's two ways -/
def bIf (b : Bool) (p q : Prop) : Prop := match b with
  | true => p
  | false => q
theorem bIf_t {p q : Prop} : bIf true p q = p := rfl
theorem bIf_f {p q : Prop} : bIf false p q = q := rfl
theorem bIf_of {b : Bool} {p q : Prop} (h : b = true → p) (k : b = false → q) : bIf b p q := by
  cases b with
  | true => exact h rfl
  | false => exact k rfl
/-! ### operands: a value, or what stands in a slot -/
abbrev Hd := Sum D Nat
def cellD : Cell → Option D
  | .off => none
  | .scr _ => none
  | .fz d => some d
  | .ow ds => some (.lst ds)
  | .os S n => some (.set S n)
  | .od k => some (.dic k)
  | .ot k => some (.dtu k)
  | .ob _ C fs => some (.obj C fs)
def peek (ρ : List Cell) (i : Nat) : Option D := (ρ[i]?).bind cellD
def res (ρ : List Cell) : Hd → Option D
  | .inl d => some d
  | .inr i => peek ρ i
abbrev DH := List Cell → (Hd → List Cell → Prop) → XD → Prop
abbrev DHs := List Cell → (List Hd → List Cell → Prop) → XD → Prop
def HdOk (c : Cfg) (g : Gh) (σ : L2.St) : Hd → V → Prop
  | .inl d, v => Rep c.K g v d
  | .inr i, v => σ[i]? = some (some v)
theorem HdOk.mono {c : Cfg} {g g' : Gh} {σ : L2.St} (l : g.le g') : ∀ {x : Hd} {v : V}, HdOk c g σ x v → HdOk c g' σ x v
  | .inl _, _, h => Rep.mono l h
  | .inr _, _, h => h
section
variable {c : Cfg} {g0 g : Gh} {H0 H : Hp} {ρ : List Cell} {σ : L2.St} {τ : List (Addr × HO)}
theorem StD.at (st : StD c g0 H0 g H ρ σ τ) {i : Nat} {d : D} (h : peek ρ i = some d) : ∃ v, σ[i]? = some (some v) ∧ Sh c.K g H v d := by
  unfold peek at h
  obtain ⟨cl, h1, h2⟩ := Option.bind_eq_some_iff.mp h
  have z := st.ok i cl h1
  cases cl with
  | off => cases h2
  | scr ns => cases h2
  | fz x => cases h2; obtain ⟨v, e, r⟩ := z; exact ⟨v, e, .rep r⟩
  | ow ds => cases h2; obtain ⟨a, xs, e, h1, r, w⟩ := z; exact ⟨_, e, .lst h1 r⟩
  | os S n => cases h2; obtain ⟨a, e, h1, w⟩ := z; exact ⟨_, e, .set h1⟩
  | od ds => cases h2; obtain ⟨a, kvs, e, h1, k, r, w⟩ := z; exact ⟨_, e, .dic h1 k r⟩
  | ot ds => cases h2; obtain ⟨a, kvs, e, h1, k, r, w⟩ := z; exact ⟨_, e, .dtu h1 k r⟩
  | ob a C ds => cases h2; obtain ⟨dx, fs, e, h1, _, k, r, w, _⟩ := z; exact ⟨_, e, .obj h1 k r⟩
theorem HdOk.sh (st : StD c g0 H0 g H ρ σ τ) {x : Hd} {v : V} {d : D} (h : HdOk c g σ x v) (e : res ρ x = some d) : Sh c.K g H v d := by
  cases x with
  | inl y => cases e; exact .rep h
  | inr i =>
    obtain ⟨w, h1, h2⟩ := st.at (i := i) e
    have h : σ[i]? = some (some v) := h
    rw [h1] at h; cases h; exact h2
end
def liftH (c : Cfg) (E : XK) (td : DH) : TE := fun σ H Q => ∃ g0 H0 g ρ τ q ex, StD c g0 H0 g H ρ σ τ ∧ td ρ q ex ∧ ExcK c g0 H0 ex E ∧
  ∀ x ρ' v g' H', q x ρ' → g.le g' → StD c g0 H0 g' H' ρ' σ τ → HdOk c g' σ x v → Q v H'
def HdsOk (c : Cfg) (g : Gh) (σ : L2.St) : List Hd → List V → Prop
  | [], [] => True
  | x :: xs, v :: vs => HdOk c g σ x v ∧ HdsOk c g σ xs vs
  | _, _ => False
def liftHs (c : Cfg) (E : XK) (td : DHs) : TA := fun σ H Q => ∃ g0 H0 g ρ τ q ex, StD c g0 H0 g H ρ σ τ ∧ td ρ q ex ∧ ExcK c g0 H0 ex E ∧
  ∀ xs ρ' vs g' H', q xs ρ' → g.le g' → StD c g0 H0 g' H' ρ' σ τ → HdsOk c g' σ xs vs → Q vs H'
abbrev PH (X : Cx) (c : Cfg) (E : XK) (e : Expr) (td : DH) : Prop := PE X e (liftH c E td)
abbrev PHs (X : Cx) (c : Cfg) (E : XK) (es : List Expr) (td : DHs) : Prop := PA X es (liftHs c E td)
def ress (ρ : List Cell) : List Hd → Option (List D)
  | [] => some []
  | x :: xs => (res ρ x).bind fun d => (ress ρ xs).map (d :: ·)
theorem HdsOk.mono {c : Cfg} {g g' : Gh} {σ : L2.St} (l : g.le g') : ∀ {x : List Hd} {v : List V}, HdsOk c g σ x v → HdsOk c g' σ x v
  | [], [], h => h
  | _ :: _, _ :: _, h => ⟨h.1.mono l, HdsOk.mono l h.2⟩
theorem HdsOk.shs {c : Cfg} {g0 g : Gh} {H0 H : Hp} {ρ : List Cell} {σ : L2.St} {τ : List (Addr × HO)} (st : StD c g0 H0 g H ρ σ τ) : ∀ {xs : List Hd} {vs : List V} {ds : List D}, HdsOk c g σ xs vs → ress ρ xs = some ds → Shs c.K g H vs ds
  | [], [], _, _, e => by cases e; exact .nil
  | x :: xs, v :: vs, ds, h, e => by
    obtain ⟨d, e1, e2⟩ := Option.bind_eq_some_iff.mp e
    obtain ⟨es, e3, e4⟩ := Option.map_eq_some_iff.mp e2
    subst e4
    exact .cons (h.1.sh st e1) (HdsOk.shs st h.2 e3)
def hOf (td : DW) : DH := fun ρ q ex => td ρ (fun d ρ' => q (.inl d) ρ') ex
def hSl (i : Nat) : DH := fun ρ q _ => (peek ρ i).isSome = true ∧ q (.inr i) ρ
def hNil : DHs := fun ρ q _ => q [] ρ
def hCons (t : DH) (u : DHs) : DHs := fun ρ q ex => t ρ (fun x ρ1 => u ρ1 (fun xs ρ2 => q (x :: xs) ρ2) ex) ex
/-! ### the judgements' rules -/
def dVar (i : Nat) : DW := fun ρ q _ => ∃ d, peek ρ i = some d ∧ q d (ρ.set i (.fz d))
def dC (d : D) : DW := fun ρ q _ => q d ρ
/-- what is one's own is frozen -/
theorem StD.freeze {c : Cfg} {g0 g : Gh} {H0 H : Hp} {ρ : List Cell} {σ : L2.St} {τ : List (Addr × HO)} (st : StD c g0 H0 g H ρ σ τ) {i : Nat} {cl : Cell} {a : Addr} {o : HO} {d : D} (hi : ρ[i]? = some cl) (hw : cl.own = true) (hs : σ[i]? = some (some (.ref a)))
    (ha : H a = some o) (w : Own H0 g a) (nt : ∀ ps, o ≠ .tbl ps) (no : ∀ y, o ≠ .own y) (r : Rep c.K ⟨upd g.F a o, g.rw⟩ (.ref a) d) :
    g.le ⟨upd g.F a o, g.rw⟩ ∧ StD c g0 H0 ⟨upd g.F a o, g.rw⟩ H (ρ.set i (.fz d)) σ τ := by
  have lt : i < ρ.length := (List.getElem?_eq_some_iff.mp hi).1
  have fl : ∀ b u, g.F b = some u → upd g.F a o b = some u := fun b u e => by rw [upd_ne (ne_of_none e w.2.1)]; exact e
  have le : g.le ⟨upd g.F a o, g.rw⟩ := ⟨fl, fun _ h => h⟩
  have ow : ∀ {b}, Own H0 g b → b ≠ a → Own H0 ⟨upd g.F a o, g.rw⟩ b := fun {b} w' n => ⟨w'.1, by show upd g.F a o b = none; rw [upd_ne n]; exact w'.2.1, w'.2.2⟩
  refine ⟨le, ⟨?_, by rw [List.length_set]; exact st.len, fun j cj hj => ?_, fun j k cj ck b hjk hj hk oj ok sj sk => ?_, fun p hp => ?_, st.pnd⟩⟩
  · have b := st.base
    refine ⟨b.le.trans le, fun b u h => ?_, fun b ps h => ?_, fun b u h => ?_, fun r h => ?_, b.rwn, b.there, b.keep, b.tab⟩
    · have h : upd g.F a o b = some u := h
      by_cases e : b = a
      · subst e; rw [upd_same] at h; cases h; exact ha
      · rw [upd_ne e] at h; exact st.base.sub _ _ h
    · have h : upd g.F a o b = some (.tbl ps) := h
      by_cases e : b = a
      · subst e; rw [upd_same] at h; exact nt ps (Option.some.inj h)
      · rw [upd_ne e] at h; exact st.base.ntb _ _ h
    · have h : upd g.F a o b = some u := h
      by_cases e : b = a
      · subst e; exact .inr w.1
      · rw [upd_ne e] at h; exact st.base.fr _ _ h
    · have hr : r ≠ a := fun e => w.2.2 (by rw [← e]; exact h)
      obtain ⟨h1, sa, ns, i, j, k, h2, h3, h4⟩ := b.row r h
      exact ⟨by show upd g.F a o r = none; rw [upd_ne hr]; exact h1, sa, ns, i, j, k, h2, sqL_mono (fl sa) h3, h4⟩
  · by_cases e : i = j
    · subst e
      rw [List.getElem?_set_self lt] at hj
      cases hj
      exact ⟨_, hs, r⟩
    · rw [List.getElem?_set_ne e] at hj
      have z := st.ok j cj hj
      have na : ∀ b, cj.own = true → σ[j]? = some (some (.ref b)) → b ≠ a := fun b ho sj z => by
        subst z
        exact st.ne i j cl cj b e hi hj hw ho hs sj
      cases cj with
      | off => trivial
      | scr ns => obtain ⟨b, e, h⟩ := z; exact ⟨b, e, sqL_mono (fl b) h⟩
      | fz x => obtain ⟨v, e, r⟩ := z; exact ⟨v, e, r.mono le⟩
      | ow ds => obtain ⟨b, xs, e, h1, r, w⟩ := z; exact ⟨b, xs, e, h1, r.mono le, ow w (na b rfl e)⟩
      | os S n => obtain ⟨b, e, h1, w⟩ := z; exact ⟨b, e, h1, ow w (na b rfl e)⟩
      | od ds => obtain ⟨b, kvs, e, h1, k, r, w⟩ := z; exact ⟨b, kvs, e, h1, k, r.mono le, ow w (na b rfl e)⟩
      | ot ds => obtain ⟨b, kvs, e, h1, k, r, w⟩ := z; exact ⟨b, kvs, e, h1, k, r.mono le, ow w (na b rfl e)⟩
      | ob b C ds =>
        obtain ⟨dx, fs, e, h1, h2, k, r, w, w2⟩ := z
        refine ⟨dx, fs, e, h1, h2, k, r.mono le, ow w (na b rfl e), ow w2 fun z => ?_⟩
        subst z
        rw [ha] at h2
        exact no _ (Option.some.inj h2)
  · have g1 : ∀ {m : Nat} {cm : Cell}, (ρ.set i (.fz d))[m]? = some cm → cm.own = true → ρ[m]? = some cm := fun {m cm} hm om => by
      by_cases e : i = m
      · subst e
        rw [List.getElem?_set_self lt] at hm
        cases hm; cases om
      · rw [List.getElem?_set_ne e] at hm; exact hm
    exact st.ne j k cj ck b hjk (g1 hj oj) (g1 hk ok) oj ok sj sk
  · obtain ⟨h1, h2, h3, h4⟩ := st.pin p hp
    refine ⟨h1, ow h2 fun e => h4 i cl hi hw (by rw [e]; exact hs), h3, fun m cm hm om => ?_⟩
    by_cases e : i = m
    · subst e
      rw [List.getElem?_set_self lt] at hm
      cases hm; cases om
    · rw [List.getElem?_set_ne e] at hm; exact h4 m cm hm om
theorem StD.take {c : Cfg} {g0 g : Gh} {H0 H : Hp} {ρ : List Cell} {σ : L2.St} {τ : List (Addr × HO)} (st : StD c g0 H0 g H ρ σ τ) {i : Nat} {d : D} (h : peek ρ i = some d) :
    ∃ v g', σ[i]? = some (some v) ∧ g.le g' ∧ StD c g0 H0 g' H (ρ.set i (.fz d)) σ τ ∧ Rep c.K g' v d := by
  unfold peek at h
  obtain ⟨cl, h1, h2⟩ := Option.bind_eq_some_iff.mp h
  have z := st.ok i cl h1
  cases cl with
  | off => cases h2
  | scr ns => cases h2
  | fz x =>
    cases h2
    obtain ⟨v, e, r⟩ := z
    have : ρ.set i (.fz d) = ρ := by
      obtain ⟨lt, h1⟩ := List.getElem?_eq_some_iff.mp h1
      rw [← h1]; exact List.set_getElem_self lt
    rw [this]
    exact ⟨v, g, e, g.le_refl, st, r⟩
  | ow ds =>
    cases h2
    obtain ⟨a, xs, e, ha, r, w⟩ := z
    have le : g.le ⟨upd g.F a (.lst xs), g.rw⟩ := ⟨fun b u h => by show upd g.F a (.lst xs) b = some u; rw [upd_ne (ne_of_none h w.2.1)]; exact h, fun _ h => h⟩
    have rr : Rep c.K ⟨upd g.F a (.lst xs), g.rw⟩ (.ref a) (.lst ds) := .lst upd_same (r.mono le)
    obtain ⟨l, s⟩ := st.freeze h1 rfl e ha w (fun _ => nofun) (fun _ => nofun) rr
    exact ⟨_, _, e, l, s, rr⟩
  | os S n =>
    cases h2
    obtain ⟨a, e, ha, w⟩ := z
    have rr : Rep c.K ⟨upd g.F a (.set S n), g.rw⟩ (.ref a) (.set S n) := .set upd_same
    obtain ⟨l, s⟩ := st.freeze h1 rfl e ha w (fun _ => nofun) (fun _ => nofun) rr
    exact ⟨_, _, e, l, s, rr⟩
  | od ds =>
    cases h2
    obtain ⟨a, kvs, e, ha, k, r, w⟩ := z
    have le : g.le ⟨upd g.F a (.dK kvs), g.rw⟩ := ⟨fun b u h => by show upd g.F a (.dK kvs) b = some u; rw [upd_ne (ne_of_none h w.2.1)]; exact h, fun _ h => h⟩
    have rr : Rep c.K ⟨upd g.F a (.dK kvs), g.rw⟩ (.ref a) (.dic ds) := .dic upd_same k (r.mono le)
    obtain ⟨l, s⟩ := st.freeze h1 rfl e ha w (fun _ => nofun) (fun _ => nofun) rr
    exact ⟨_, _, e, l, s, rr⟩
  | ot ds =>
    cases h2
    obtain ⟨a, kvs, e, ha, k, r, w⟩ := z
    have le : g.le ⟨upd g.F a (.dT kvs), g.rw⟩ := ⟨fun b u h => by show upd g.F a (.dT kvs) b = some u; rw [upd_ne (ne_of_none h w.2.1)]; exact h, fun _ h => h⟩
    have rr : Rep c.K ⟨upd g.F a (.dT kvs), g.rw⟩ (.ref a) (.dtu ds) := .dtu upd_same k (r.mono le)
    obtain ⟨l, s⟩ := st.freeze h1 rfl e ha w (fun _ => nofun) (fun _ => nofun) rr
    exact ⟨_, _, e, l, s, rr⟩
  | ob a C ds =>
    cases h2
    obtain ⟨dx, fs, e, ha, _, k, r, w, _⟩ := z
    have le : g.le ⟨upd g.F a (.ins C dx fs), g.rw⟩ := ⟨fun b u h => by show upd g.F a (.ins C dx fs) b = some u; rw [upd_ne (ne_of_none h w.2.1)]; exact h, fun _ h => h⟩
    have rr : Rep c.K ⟨upd g.F a (.ins C dx fs), g.rw⟩ (.ref a) (.obj C ds) := .obj upd_same k (r.mono le)
    obtain ⟨l, s⟩ := st.freeze h1 rfl e ha w (fun _ => nofun) (fun _ => nofun) rr
    exact ⟨_, _, e, l, s, rr⟩
section
variable {X : Cx} {c : Cfg} {E : XK} {a b : Expr} {es : List Expr} {pos : Pos} {ta tb : DW} {ha hb hc : DH} {t u : DT}
theorem pd_var {i : Nat} {e : Expr} (h : PE X e (tVar i)) : PD X c E e (dVar i) := h.imp fun σ H Q ⟨g0, H0, g, ρ, τ, q, ex, st, ⟨d, h1, h2⟩, hx, k⟩ => by
  obtain ⟨v, g', e, l, s, r⟩ := st.take h1
  exact ⟨v, e, k d _ v g' H h2 l s r⟩
theorem pd_const {e : Expr} {d : D} {v : V} (h : PE X e (tC v)) (r : ∀ g, Rep c.K g v d) : PD X c E e (dC d) := h.imp fun σ H Q ⟨g0, H0, g, ρ, τ, q, ex, st, h1, hx, k⟩ => k d ρ v g H h1 g.le_refl st (r g)
theorem pd_int {i j} : PD X c E (.Constant (.int i) j pos) (dC (.int i)) := pd_const pe_int fun _ => .int i
theorem pd_bl {b j} : PD X c E (.Constant (.bool b) j pos) (dC (.bl b)) := pd_const pe_bl fun _ => .bl b
theorem pd_non {j} : PD X c E (.Constant .none j pos) (dC .non) := pd_const pe_non fun _ => .non
theorem pd_str {x j} : PD X c E (.Constant (.str x) j pos) (dC (.str x)) := pd_const pe_str fun _ => .str x
theorem ph_of (h : PD X c E a ta) : PH X c E a (hOf ta) := h.imp fun σ H Q ⟨g0, H0, g, ρ, τ, q, ex, st, h1, hx, k⟩ => ⟨g0, H0, g, ρ, τ, _, ex, st, h1, hx, fun d ρ' v g' H' h2 l s r => k (.inl d) ρ' v g' H' h2 l s r⟩
theorem ph_sl {i : Nat} (h : PE X a (tVar i)) : PH X c E a (hSl i) := h.imp fun σ H Q ⟨g0, H0, g, ρ, τ, q, ex, st, ⟨h1, h2⟩, hx, k⟩ => by
  obtain ⟨d, hd⟩ := Option.isSome_iff_exists.mp h1
  obtain ⟨v, e, _⟩ := st.at hd
  exact ⟨v, e, k (.inr i) ρ v g H h2 g.le_refl st e⟩
/-! two operands -/
def dOp (k : D → D → (D → Prop) → Prop) (ha hb : DH) : DW := fun ρ q ex => ha ρ (fun x ρ1 => hb ρ1 (fun y ρ2 => ∃ d e, res ρ2 x = some d ∧ res ρ2 y = some e ∧ k d e fun z => q z ρ2) ex) ex
theorem lift_op {r : R2} {k : D → D → (D → Prop) → Prop} (hk : OpD c r k) {σ : L2.St} {H : Hp} {Q : VK} (h : liftE c E (dOp k ha hb) σ H Q) : tOp r (liftH c E ha) (liftH c E hb) σ H Q := by
  obtain ⟨g0, H0, g, ρ, τ, q, ex, st, h, hx, kk⟩ := h
  refine ⟨g0, H0, g, ρ, τ, _, ex, st, h, hx, fun x ρ1 v g1 H1 h1 l1 st1 r1 => ⟨g0, H0, g1, ρ1, τ, _, ex, st1, h1, hx, fun y ρ2 u g2 H2 h2 l2 st2 r2 => ?_⟩⟩
  obtain ⟨d, e, e1, e2, h3⟩ := h2
  exact hk g2 H2 v u d e _ _ st2.base.good ((r1.mono l2).sh st2 e1) (r2.sh st2 e2) h3 fun z w g3 H3 p3 b3 r3 => kk z ρ2 w g3 H3 p3 ((l1.trans l2).trans b3.le) (st2.step b3) r3
theorem pd_op {op : Operator} {r : R2} {k : D → D → (D → Prop) → Prop} (ho : OpR X (binaryOp op) r) (hk : OpD c r k) (h1 : PH X c E a ha) (h2 : PH X c E b hb) : PD X c E (.BinOp a op b pos) (dOp k ha hb) :=
  (pe_op ho h1 h2).imp fun _ _ _ h => lift_op hk h
theorem pd_cmp {op : CmpOp} {r : R2} {k : D → D → (D → Prop) → Prop} (ho : OpR X (compareOp op) r) (hk : OpD c r k) (h1 : PH X c E a ha) (h2 : PH X c E b hb) (hm : behindInMarks op b = false) : PD X c E (.Compare a [op] [b] pos) (dOp k ha hb) :=
  (pe_cmpR ho h1 h2 hm).imp fun _ _ _ h => lift_op hk h
/-- a test by a value that is a bool -/
def dTest (t : DW) : DT := fun ρ q ex => t ρ (fun d ρ1 => ∃ b, d = .bl b ∧ q b ρ1) ex
theorem lift_test {td : DW} {te : TE} (h : ∀ σ H Q, liftE c E td σ H Q → te σ H Q) {σ : L2.St} {H : Hp} {Q : Bool → Hp → Prop} (w : liftT c E (dTest td) σ H Q) : tTest te σ H Q := by
  obtain ⟨g0, H0, g, ρ, τ, q, ex, st, h1, hx, kk⟩ := w
  refine h σ H _ ⟨g0, H0, g, ρ, τ, _, ex, st, h1, hx, fun d ρ' v g' H' h2 l s r => ?_⟩
  obtain ⟨b, e, q⟩ := h2
  subst e
  cases r
  exact ⟨b, rfl, kk b ρ' g' H' q l s⟩
theorem pdt_cmp {op : CmpOp} {r : R2} {k : D → D → (D → Prop) → Prop} (ho : OpR X (compareOp op) r) (hk : OpD c r k) (h1 : PH X c E a ha) (h2 : PH X c E b hb) (hm : behindInMarks op b = false) : PDT X c E (.Compare a [op] [b] pos) (dTest (dOp k ha hb)) :=
  (pt_cmpR ho h1 h2 hm).imp fun _ _ _ h => lift_test (fun _ _ _ w => lift_op hk w) h
/-! a op b op' c -/
def dChain (k k' : D → D → (D → Prop) → Prop) (ha hb hc : DH) : DW := fun ρ q ex => ha ρ (fun x ρ1 => hb ρ1 (fun y ρ2 => ∃ d e, res ρ2 x = some d ∧ res ρ2 y = some e ∧ k d e fun z => ∃ b, z = .bl b ∧
  bIf b (hc ρ2 (fun w ρ3 => ∃ d e, res ρ3 y = some d ∧ res ρ3 w = some e ∧ k' d e fun z => q z ρ3) ex) (q (.bl false) ρ2)) ex) ex
theorem lift_chain {r r' : R2} {k k' : D → D → (D → Prop) → Prop} (hk : OpD c r k) (hk' : OpD c r' k') {σ : L2.St} {H : Hp} {Q : VK} (h : liftE c E (dChain k k' ha hb hc) σ H Q) : tChain r r' (liftH c E ha) (liftH c E hb) (liftH c E hc) σ H Q := by
  obtain ⟨g0, H0, g, ρ, τ, q, ex, st, h, hx, kk⟩ := h
  refine ⟨g0, H0, g, ρ, τ, _, ex, st, h, hx, fun x ρ1 v g1 H1 h1 l1 st1 r1 => ⟨g0, H0, g1, ρ1, τ, _, ex, st1, h1, hx, fun y ρ2 u g2 H2 h2 l2 st2 r2 => ?_⟩⟩
  obtain ⟨d, e, e1, e2, h3⟩ := h2
  refine hk g2 H2 v u d e _ _ st2.base.good ((r1.mono l2).sh st2 e1) (r2.sh st2 e2) h3 fun z w g3 H3 p3 b3 r3 => ?_
  obtain ⟨b, eb, p3⟩ := p3
  subst eb
  cases r3
  refine ⟨b, rfl, ?_⟩
  have st3 := st2.step b3
  cases b with
  | false => exact kk (.bl false) ρ2 _ g3 H3 p3 ((l1.trans l2).trans b3.le) st3 (.bl false)
  | true =>
    refine ⟨g0, H0, g3, ρ2, τ, _, ex, st3, p3, hx, fun w' ρ4 v' g4 H4 h4 l4 st4 r4 => ?_⟩
    obtain ⟨d', e', e3, e4, h5⟩ := h4
    exact hk' g4 H4 u v' d' e' _ _ st4.base.good (((r2.mono b3.le).mono l4).sh st4 e3) (r4.sh st4 e4) h5 fun z w g5 H5 p5 b5 r5 => kk z ρ4 w g5 H5 p5 ((((l1.trans l2).trans b3.le).trans l4).trans b5.le) (st4.step b5) r5
theorem pd_chain {op op' : CmpOp} {e2 : Expr} {r r' : R2} {k k' : D → D → (D → Prop) → Prop} (ho : OpR X (compareOp op) r) (ho' : OpR X (compareOp op') r') (hk : OpD c r k) (hk' : OpD c r' k') (h1 : PH X c E a ha) (h2 : PH X c E b hb) (h3 : PH X c E e2 hc)
    (hm : lastMarks [op, op'] [b, e2] = false := by with_unfolding_all rfl) : PD X c E (.Compare a [op, op'] [b, e2] pos) (dChain k k' ha hb hc) := (pe_chain ho ho' h1 h2 h3 hm).imp fun _ _ _ h => lift_chain hk hk' h
theorem pdt_chain {op op' : CmpOp} {e2 : Expr} {r r' : R2} {k k' : D → D → (D → Prop) → Prop} (ho : OpR X (compareOp op) r) (ho' : OpR X (compareOp op') r') (hk : OpD c r k) (hk' : OpD c r' k') (h1 : PH X c E a ha) (h2 : PH X c E b hb) (h3 : PH X c E e2 hc)
    (hm : lastMarks [op, op'] [b, e2] = false := by with_unfolding_all rfl) : PDT X c E (.Compare a [op, op'] [b, e2] pos) (dTest (dChain k k' ha hb hc)) := (pt_chain ho ho' h1 h2 h3 hm).imp fun _ _ _ h => lift_test (fun _ _ _ w => lift_chain hk hk' w) h
/-! one operand -/
def dUn (k : D → (D → Prop) → Prop) (ha : DH) : DW := fun ρ q ex => ha ρ (fun x ρ1 => ∃ d, res ρ1 x = some d ∧ k d fun z => q z ρ1) ex
theorem lift_un {r : V → Hp → VK → Prop} {k : D → (D → Prop) → Prop} (hk : UnD c r k) {σ : L2.St} {H : Hp} {Q : VK} (h : liftE c E (dUn k ha) σ H Q) : tUn r (liftH c E ha) σ H Q := by
  obtain ⟨g0, H0, g, ρ, τ, q, ex, st, h, hx, kk⟩ := h
  refine ⟨g0, H0, g, ρ, τ, _, ex, st, h, hx, fun x ρ1 v g1 H1 h1 l1 st1 r1 => ?_⟩
  obtain ⟨d, e1, h3⟩ := h1
  exact hk g1 H1 v d _ _ st1.base.good (r1.sh st1 e1) h3 fun z w g3 H3 p3 b3 r3 => kk z ρ1 w g3 H3 p3 (l1.trans b3.le) (st1.step b3) r3
theorem pd_un {op : UnaryOp} {r : V → Hp → VK → Prop} {k : D → (D → Prop) → Prop} (ho : UnR X (unaryOp op) r) (hk : UnD c r k) (h1 : PH X c E a ha) : PD X c E (.UnaryOp op a pos) (dUn k ha) := (pe_un ho h1).imp fun _ _ _ h => lift_un hk h
def kU (f : Int → Int) : D → (D → Prop) → Prop := fun d p => match d with
  | .int i => p (.int (f i))
  | _ => False
theorem und_I {f : Int → Int} : UnD c (rU fun i => .int (f i)) (kU f) := by
  intro g H x d p Q b rx h n
  cases d <;> first | exact h.elim | exact ⟨_, rx.int, n.same b h (.int _)⟩
/-! truth -/
def kTru : D → (Bool → Prop) → Prop := fun d p => match d with
  | .non => p false
  | .bl b => p b
  | .int i => p (i != 0)
  | .str x => x.length ≤ sizeLine ∧ p ((x.length : Int) != 0)
  | .lst ds => p (!ds.isEmpty)
  | .tup ds => p (!ds.isEmpty)
  | .dic ds => p (!ds.isEmpty)
  | _ => False
theorem kTru_bl {b : Bool} {p : Bool → Prop} : kTru (.bl b) p = p b := rfl
theorem kTru_int {i : Int} {p : Bool → Prop} : kTru (.int i) p = p (i != 0) := rfl
theorem kTru_non {p : Bool → Prop} : kTru .non p = p false := rfl
theorem kTru_lst {ds : List D} {p : Bool → Prop} : kTru (.lst ds) p = p (!ds.isEmpty) := rfl
theorem kTru_tup {ds : List D} {p : Bool → Prop} : kTru (.tup ds) p = p (!ds.isEmpty) := rfl
theorem kTru_dic {ds : List (Key × D)} {p : Bool → Prop} : kTru (.dic ds) p = p (!ds.isEmpty) := rfl
theorem isEmpty_len {α β : Type} {xs : List α} {ys : List β} (h : xs.length = ys.length) : xs.isEmpty = ys.isEmpty := by
  cases xs <;> cases ys <;> first | rfl | (simp at h)
theorem kTru_ok {g : Gh} {H : Hp} {v : V} {d : D} {p : Bool → Prop} (b : Good c g H) (r : Sh c.K g H v d) (h : kTru d p) : ∃ k, TruV c.K v H k ∧ p k := by
  cases d with
  | non => rw [r.non]; exact ⟨_, rfl, h⟩
  | bl k => rw [r.bl]; exact ⟨_, rfl, h⟩
  | int i => rw [r.int]; exact ⟨_, rfl, h⟩
  | str x => rw [r.str]; exact ⟨_, ⟨h.1, rfl⟩, h.2⟩
  | lst ds =>
    obtain ⟨a, xs, e, h1, rs⟩ := r.lst' b
    rw [e]
    exact ⟨_, .inl ⟨xs, .inl (.inl h1), rfl⟩, by rw [isEmpty_len rs.length]; exact h⟩
  | tup ds =>
    obtain ⟨a, xs, e, h1, rs⟩ := r.tup
    rw [e]
    exact ⟨_, .inr (.inl ⟨xs, b.sqT h1, rfl⟩), by rw [isEmpty_len rs.length]; exact h⟩
  | dic ds =>
    obtain ⟨a, kvs, e, h1, k, rs⟩ := r.dic' b
    rw [e]
    refine ⟨_, .inr (.inr ⟨kvs, h1, rfl⟩), ?_⟩
    have : kvs.length = ds.length := by rw [← List.length_map (f := (·.1)), k, List.length_map]
    rw [isEmpty_len this]; exact h
  | _ => exact h.elim
def dTru (ha : DH) : DT := fun ρ q ex => ha ρ (fun x ρ1 => ∃ d, res ρ1 x = some d ∧ kTru d fun k => q k ρ1) ex
theorem pdt_tru (hK : X.K = c.K) (h1 : PH X c E a ha) (he : ∀ whole, isTrue a X.env whole = (do let v ← whole; standAt a.pos; holding [v] (truthy v)) := by intro _; rfl) : PDT X c E a (dTru ha) := (pt_truth h1 he).imp fun σ H Q h => by
  obtain ⟨g0, H0, g, ρ, τ, q, ex, st, h, hx, kk⟩ := h
  refine ⟨g0, H0, g, ρ, τ, _, ex, st, h, hx, fun x ρ1 v g1 H1 h1 l1 st1 r1 => ?_⟩
  obtain ⟨d, e1, h3⟩ := h1
  obtain ⟨k, h4, h5⟩ := kTru_ok st1.base.good (r1.sh st1 e1) h3
  rw [hK]
  exact ⟨k, h4, kk k ρ1 g1 H1 h5 l1 st1⟩
def dNot (t : DT) : DT := fun ρ q ex => t ρ (fun b ρ1 => q (!b) ρ1) ex
def dAnd (t u : DT) : DT := fun ρ q ex => t ρ (fun b ρ1 => bIf b (u ρ1 q ex) (q false ρ1)) ex
def dOr (t u : DT) : DT := fun ρ q ex => t ρ (fun b ρ1 => bIf b (q true ρ1) (u ρ1 q ex)) ex
theorem pdt_not (h : PDT X c E a t) : PDT X c E (.UnaryOp .Not a pos) (dNot t) := (pt_not h).imp fun σ H Q ⟨g0, H0, g, ρ, τ, q, ex, st, h, hx, kk⟩ => ⟨g0, H0, g, ρ, τ, _, ex, st, h, hx, fun b ρ1 g1 H1 h1 l1 st1 => kk (!b) ρ1 g1 H1 h1 l1 st1⟩
theorem pdw_and1 (h : PDT X c E a t) : PDW X c E (.BoolOp .And [a] pos) t := pw_and1 h
theorem pdw_or1 (h : PDT X c E a t) : PDW X c E (.BoolOp .Or [a] pos) t := pw_or1 h
theorem pdw_and (h : PDT X c E a t) (k : PDW X c E (.BoolOp .And (b :: es) pos) u) : PDW X c E (.BoolOp .And (a :: b :: es) pos) (dAnd t u) := (pw_and h k).imp fun σ H Q ⟨g0, H0, g, ρ, τ, q, ex, st, h, hx, kk⟩ => by
  refine ⟨g0, H0, g, ρ, τ, _, ex, st, h, hx, fun b ρ1 g1 H1 h1 l1 st1 => ?_⟩
  cases b with
  | true => exact ⟨g0, H0, g1, ρ1, τ, _, ex, st1, h1, hx, fun b ρ2 g2 H2 h2 l2 st2 => kk b ρ2 g2 H2 h2 (l1.trans l2) st2⟩
  | false => exact kk false ρ1 g1 H1 h1 l1 st1
theorem pdw_or (h : PDT X c E a t) (k : PDW X c E (.BoolOp .Or (b :: es) pos) u) : PDW X c E (.BoolOp .Or (a :: b :: es) pos) (dOr t u) := (pw_or h k).imp fun σ H Q ⟨g0, H0, g, ρ, τ, q, ex, st, h, hx, kk⟩ => by
  refine ⟨g0, H0, g, ρ, τ, _, ex, st, h, hx, fun b ρ1 g1 H1 h1 l1 st1 => ?_⟩
  cases b with
  | false => exact ⟨g0, H0, g1, ρ1, τ, _, ex, st1, h1, hx, fun b ρ2 g2 H2 h2 l2 st2 => kk b ρ2 g2 H2 h2 (l1.trans l2) st2⟩
  | true => exact kk true ρ1 g1 H1 h1 l1 st1
/-! as values -/
def dNotV (t : DW) : DW := fun ρ q ex => t ρ (fun d ρ1 => ∃ b, d = .bl b ∧ q (.bl (!b)) ρ1) ex
def dAndV (t u : DW) : DW := fun ρ q ex => t ρ (fun d ρ1 => ∃ b, d = .bl b ∧ bIf b (u ρ1 q ex) (q (.bl false) ρ1)) ex
def dOrV (t u : DW) : DW := fun ρ q ex => t ρ (fun d ρ1 => ∃ b, d = .bl b ∧ bIf b (q (.bl true) ρ1) (u ρ1 q ex)) ex
theorem pd_not (h : PD X c E a ta) : PD X c E (.UnaryOp .Not a pos) (dNotV ta) := (pe_not h).imp fun σ H Q ⟨g0, H0, g, ρ, τ, q, ex, st, h, hx, kk⟩ => by
  refine ⟨g0, H0, g, ρ, τ, _, ex, st, h, hx, fun d ρ1 v g1 H1 h1 l1 st1 r1 => ?_⟩
  obtain ⟨b, e, h1⟩ := h1
  subst e
  cases r1
  exact ⟨b, rfl, kk _ ρ1 _ g1 H1 h1 l1 st1 (.bl _)⟩
theorem pd_one {op} (h : PD X c E a ta) : PD X c E (.BoolOp op [a] pos) ta := pe_one h
theorem pd_and (h : PD X c E a ta) (k : PD X c E (.BoolOp .And (b :: es) pos) tb) : PD X c E (.BoolOp .And (a :: b :: es) pos) (dAndV ta tb) := (pe_and h k).imp fun σ H Q ⟨g0, H0, g, ρ, τ, q, ex, st, h, hx, kk⟩ => by
  refine ⟨g0, H0, g, ρ, τ, _, ex, st, h, hx, fun d ρ1 v g1 H1 h1 l1 st1 r1 => ?_⟩
  obtain ⟨b, e, h1⟩ := h1
  subst e
  cases r1
  refine ⟨b, rfl, ?_⟩
  cases b with
  | true => exact ⟨g0, H0, g1, ρ1, τ, _, ex, st1, h1, hx, fun d ρ2 v g2 H2 h2 l2 st2 r2 => kk d ρ2 v g2 H2 h2 (l1.trans l2) st2 r2⟩
  | false => exact kk _ ρ1 _ g1 H1 h1 l1 st1 (.bl false)
theorem pd_or (h : PD X c E a ta) (k : PD X c E (.BoolOp .Or (b :: es) pos) tb) : PD X c E (.BoolOp .Or (a :: b :: es) pos) (dOrV ta tb) := (pe_or h k).imp fun σ H Q ⟨g0, H0, g, ρ, τ, q, ex, st, h, hx, kk⟩ => by
  refine ⟨g0, H0, g, ρ, τ, _, ex, st, h, hx, fun d ρ1 v g1 H1 h1 l1 st1 r1 => ?_⟩
  obtain ⟨b, e, h1⟩ := h1
  subst e
  cases r1
  refine ⟨b, rfl, ?_⟩
  cases b with
  | false => exact ⟨g0, H0, g1, ρ1, τ, _, ex, st1, h1, hx, fun d ρ2 v g2 H2 h2 l2 st2 r2 => kk d ρ2 v g2 H2 h2 (l1.trans l2) st2 r2⟩
  | true => exact kk _ ρ1 _ g1 H1 h1 l1 st1 (.bl true)
def dIf (t : DT) (ta tb : DW) : DW := fun ρ q ex => t ρ (fun b ρ1 => bIf b (ta ρ1 q ex) (tb ρ1 q ex)) ex
theorem pd_if {e : Expr} (h : PDT X c E e t) (h1 : PD X c E a ta) (h2 : PD X c E b tb) : PD X c E (.IfExp e a b pos) (dIf t ta tb) := (pe_ifExp h h1 h2).imp fun σ H Q ⟨g0, H0, g, ρ, τ, q, ex, st, h, hx, kk⟩ => by
  refine ⟨g0, H0, g, ρ, τ, _, ex, st, h, hx, fun b ρ1 g1 H1 h1 l1 st1 => ?_⟩
  cases b <;> exact ⟨g0, H0, g1, ρ1, τ, _, ex, st1, h1, hx, fun d ρ2 v g2 H2 h2 l2 st2 r2 => kk d ρ2 v g2 H2 h2 (l1.trans l2) st2 r2⟩
/-! lists of values -/
def dNil : DA := fun ρ q _ => q [] ρ
def dCons (t : DW) (u : DA) : DA := fun ρ q ex => t ρ (fun d ρ1 => u ρ1 (fun ds ρ2 => q (d :: ds) ρ2) ex) ex
theorem pda_nil : PDA X c E [] dNil := pa_nil.imp fun σ H Q ⟨g0, H0, g, ρ, τ, q, ex, st, h, hx, kk⟩ => kk [] ρ [] g H h g.le_refl st .nil
theorem pda_cons {u : DA} (h : PD X c E a ta) (k : PDA X c E es u) (hs : starEach (a :: es) X.env = (false, eval a X.env) :: starEach es X.env := by rfl) : PDA X c E (a :: es) (dCons ta u) := (pa_cons h k hs).imp fun σ H Q ⟨g0, H0, g, ρ, τ, q, ex, st, h, hx, kk⟩ =>
  ⟨g0, H0, g, ρ, τ, _, ex, st, h, hx, fun d ρ1 v g1 H1 h1 l1 st1 r1 => ⟨g0, H0, g1, ρ1, τ, _, ex, st1, h1, hx, fun ds ρ2 vs g2 H2 h2 l2 st2 r2 => kk (d :: ds) ρ2 (v :: vs) g2 H2 h2 (l1.trans l2) st2 (.cons (r1.mono l2) r2)⟩⟩
theorem phs_nil : PHs X c E [] hNil := pa_nil.imp fun σ H Q ⟨g0, H0, g, ρ, τ, q, ex, st, h, hx, kk⟩ => kk [] ρ [] g H h g.le_refl st trivial
theorem phs_cons {u : DHs} (h : PH X c E a ha) (k : PHs X c E es u) (hs : starEach (a :: es) X.env = (false, eval a X.env) :: starEach es X.env := by rfl) : PHs X c E (a :: es) (hCons ha u) := (pa_cons h k hs).imp fun σ H Q ⟨g0, H0, g, ρ, τ, q, ex, st, h, hx, kk⟩ =>
  ⟨g0, H0, g, ρ, τ, _, ex, st, h, hx, fun d ρ1 v g1 H1 h1 l1 st1 r1 => ⟨g0, H0, g1, ρ1, τ, _, ex, st1, h1, hx, fun ds ρ2 vs g2 H2 h2 l2 st2 r2 => kk (d :: ds) ρ2 (v :: vs) g2 H2 h2 (l1.trans l2) st2 ⟨r1.mono l2, r2⟩⟩⟩
def dTup (t : DA) : DW := fun ρ q ex => t ρ (fun ds ρ1 => ds.length ≤ sizeLine ∧ q (.tup ds) ρ1) ex
def dLst (t : DA) : DW := fun ρ q ex => t ρ (fun ds ρ1 => ds.length ≤ sizeLine ∧ q (.lst ds) ρ1) ex
theorem pd_tup {x1} {t : DA} (h : PDA X c E es t) : PD X c E (.Tuple es x1 pos) (dTup t) := (pe_tup h).imp fun σ H Q ⟨g0, H0, g, ρ, τ, q, ex, st, h, hx, kk⟩ => by
  refine ⟨g0, H0, g, ρ, τ, _, ex, st, h, hx, fun ds ρ1 vs g1 H1 h1 l1 st1 r1 => ⟨by rw [r1.length]; exact h1.1, fun p hp => ?_⟩⟩
  have b := st1.base.good.alloc (o := .tup vs) hp (fun _ => nofun)
  exact kk _ ρ1 _ _ _ h1.2 (l1.trans b.le) (st1.step b) (rep_tup st1.base.good hp r1)
theorem pd_lst {t : DA} (h : PDA X c E es t) : PD X c E (.List es pos) (dLst t) := (pe_lst h).imp fun σ H Q ⟨g0, H0, g, ρ, τ, q, ex, st, h, hx, kk⟩ => by
  refine ⟨g0, H0, g, ρ, τ, _, ex, st, h, hx, fun ds ρ1 vs g1 H1 h1 l1 st1 r1 => ⟨by rw [r1.length]; exact h1.1, fun p hp => ?_⟩⟩
  have b := st1.base.good.alloc (o := .lst vs) hp (fun _ => nofun)
  exact kk _ ρ1 _ _ _ h1.2 (l1.trans b.le) (st1.step b) (rep_lst st1.base.good hp r1)
/-! a[b], a[i:j] -/
def kIx : D → D → (D → Prop) → Prop := fun d e p => match d, e with
  | .lst ds, .int i => ∃ y, atI ds i = some y ∧ p y
  | .tup ds, .int i => ∃ y, atI ds i = some y ∧ p y
  | .scr ns, .int i => ∃ y, atI ns i = some y ∧ p (.int y)
  | _, _ => False
def rIxD (K : PySem.W.Frag) : R2 := fun x y H Q => rIxL K x y H Q ∨ rIxT K x y H Q
theorem ix_D : IxR X (rIxD X.K) := ix_list.or ix_tup
theorem atI_rep {K : PySem.W.Frag} {g : Gh} {xs : List V} {ds : List D} {i : Int} {d : D} (r : Reps K g xs ds) (h : atI ds i = some d) : ∃ v, atI xs i = some v ∧ Rep K g v d := by
  unfold atI at h ⊢
  rw [r.length]
  obtain ⟨j, h1, h2⟩ := Option.bind_eq_some_iff.mp h
  obtain ⟨v, h3, h4⟩ := r.get h2
  exact ⟨v, Option.bind_eq_some_iff.mpr ⟨j, h1, h3⟩, h4⟩
theorem atI_map {xs : List Int} {i z : Int} (h : atI xs i = some z) : atI (xs.map V.int) i = some (.int z) := by
  unfold atI at h ⊢
  rw [List.length_map]
  obtain ⟨j, h1, h2⟩ := Option.bind_eq_some_iff.mp h
  exact Option.bind_eq_some_iff.mpr ⟨j, h1, by rw [List.getElem?_map, h2]; rfl⟩
theorem opd_ix : OpD c (rIxD c.K) kIx := by
  intro g H x y d e p Q b rx ry h n
  cases d <;> cases e <;> first | exact h.elim | skip
  · obtain ⟨z, h1, h2⟩ := h
    obtain ⟨a, xs, e1, hx, rs⟩ := rx.lst' b
    obtain ⟨v, h3, h4⟩ := atI_rep rs h1
    exact .inl ⟨a, xs, _, v, e1, ry.int, .inl (.inl hx), h3, n.same b h2 h4⟩
  · obtain ⟨z, h1, h2⟩ := h
    obtain ⟨a, xs, e1, hx, rs⟩ := rx.tup
    obtain ⟨v, h3, h4⟩ := atI_rep rs h1
    exact .inr ⟨a, xs, _, v, e1, ry.int, b.sqT hx, h3, n.same b h2 h4⟩
  · obtain ⟨z, h1, h2⟩ := h
    cases rx with | rep rx =>
    cases rx with | scr hx =>
    exact .inl ⟨_, _, _, .int z, rfl, ry.int, sqL_mono (b.sub _) hx, atI_map h1, n.same b h2 (.int z)⟩
theorem pd_ix (hK : X.K = c.K) (h1 : PH X c E a ha) (h2 : PH X c E b hb) (hs : PlainIx b := by intro _ _; rfl) : PD X c E (.Subscript a b pos) (dOp kIx ha hb) := (pe_ix ix_D h1 h2 hs).imp fun _ _ _ h => by
  rw [hK]
  exact lift_op opd_ix h
end
end D7
namespace D7
open PySem PySem.Spec PyProof.Rows L2
/-! ### what an expression may make for the def alone -/
abbrev DC := List Cell → (Cell → List Cell → Prop) → XD → Prop
def CellHO (K : PySem.W.Frag) (g : Gh) : Cell → HO → Prop
  | .ow ds, .lst xs => Reps K g xs ds
  | .os S n, .set S' n' => S = S' ∧ n = n'
  | .od ds, .dK kvs => kvs.map (·.1) = ds.map (·.1) ∧ Reps K g (kvs.map (·.2)) (ds.map (·.2))
  | .ot ds, .dT kvs => kvs.map (·.1) = ds.map (·.1) ∧ Reps K g (kvs.map (·.2)) (ds.map (·.2))
  | _, _ => False
inductive CV (K : PySem.W.Frag) (g : Gh) : Cell → V → List (Addr × HO) → Prop
  | fz {d : D} {v : V} : Rep K g v d → CV K g (.fz d) v []
  | own {cl : Cell} {a : Addr} {o : HO} : CellHO K g cl o → CV K g cl (.ref a) [(a, o)]
def liftC (c : Cfg) (E : XK) (td : DC) : TE := fun σ H Q => ∃ g0 H0 g ρ τ q ex, StD c g0 H0 g H ρ σ τ ∧ td ρ q ex ∧ ExcK c g0 H0 ex E ∧
  ∀ cl ρ' v g' H' τ', q cl ρ' → g.le g' → StD c g0 H0 g' H' ρ' σ (τ' ++ τ) → CV c.K g' cl v τ' → Q v H'
abbrev PC (X : Cx) (c : Cfg) (E : XK) (e : Expr) (td : DC) : Prop := PE X e (liftC c E td)
section
variable {c : Cfg} {g0 g g' : Gh} {H0 H H' : Hp} {ρ : List Cell} {σ : L2.St} {τ : List (Addr × HO)}
theorem CellHO.own {K : PySem.W.Frag} {cl : Cell} {o : HO} (h : CellHO K g cl o) : cl.own = true ∧ (∀ ps, o ≠ .tbl ps) ∧ ∀ y, o ≠ .own y := by
  cases cl <;> cases o <;> first | exact h.elim | exact ⟨rfl, fun _ => nofun, fun _ => nofun⟩
theorem CellHO.mono {K : PySem.W.Frag} {cl : Cell} {o : HO} (l : g.le g') (h : CellHO K g cl o) : CellHO K g' cl o := by
  cases cl <;> cases o <;> first | exact h.elim | exact h | exact Reps.mono l h | exact ⟨h.1, Reps.mono l h.2⟩
/-- a slot gets a value that is frozen -/
theorem StD.setF (st : StD c g0 H0 g H ρ σ τ) {i : Nat} {v : V} {d : D} (r : Rep c.K g v d) : StD c g0 H0 g H (ρ.set i (.fz d)) (σ.set i (some v)) τ := by
  have g1 : ∀ {m : Nat} {cm : Cell}, (ρ.set i (.fz d))[m]? = some cm → cm.own = true → i ≠ m ∧ ρ[m]? = some cm ∧ (σ.set i (some v))[m]? = σ[m]? := fun {m cm} hm om => by
    by_cases e : i = m
    · subst e
      by_cases lt : i < ρ.length
      · rw [List.getElem?_set_self lt] at hm; cases hm; cases om
      · rw [List.getElem?_eq_none (by rw [List.length_set]; omega)] at hm; cases hm
    · rw [List.getElem?_set_ne e] at hm
      exact ⟨e, hm, List.getElem?_set_ne e⟩
  refine ⟨st.base, by rw [List.length_set, List.length_set]; exact st.len, fun j cj hj => ?_, fun j k cj ck b hjk hj hk oj ok sj sk => ?_, fun p hp => ?_, st.pnd⟩
  · by_cases e : i = j
    · subst e
      have lt : i < ρ.length := by
        have := (List.getElem?_eq_some_iff.mp hj).1
        rwa [List.length_set] at this
      rw [List.getElem?_set_self lt] at hj
      cases hj
      rw [List.getElem?_set_self (by rw [← st.len]; exact lt)]
      exact ⟨v, rfl, r⟩
    · rw [List.getElem?_set_ne e] at hj ⊢
      exact st.ok j cj hj
  · obtain ⟨_, h1, h2⟩ := g1 hj oj
    obtain ⟨_, h3, h4⟩ := g1 hk ok
    exact st.ne j k cj ck b hjk h1 h3 oj ok (by rw [← h2]; exact sj) (by rw [← h4]; exact sk)
  · obtain ⟨h1, h2, h3, h4⟩ := st.pin p hp
    refine ⟨h1, h2, h3, fun m cm hm om => ?_⟩
    obtain ⟨_, h5, h6⟩ := g1 hm om
    rw [h6]
    exact h4 m cm h5 om
/-- a slot gets an object that is the def's own -/
theorem StD.setO {a : Addr} {o : HO} (st : StD c g0 H0 g H ρ σ ((a, o) :: τ)) {i : Nat} {cl : Cell} (r : CellHO c.K g cl o) : StD c g0 H0 g H (ρ.set i cl) (σ.set i (some (.ref a))) τ := by
  obtain ⟨pa, pw, _, pn⟩ := st.pin (a, o) List.mem_cons_self
  have hn : ∀ p ∈ τ, p.1 ≠ a := fun p hp z => (List.nodup_cons.mp st.pnd).1 (List.mem_map.mpr ⟨p, hp, z⟩)
  have g1 : ∀ {m : Nat} {cm : Cell}, (ρ.set i cl)[m]? = some cm → cm.own = true → (i = m ∧ (σ.set i (some (.ref a)))[m]? = some (some (.ref a))) ∨ (i ≠ m ∧ ρ[m]? = some cm ∧ (σ.set i (some (.ref a)))[m]? = σ[m]?) := fun {m cm} hm om => by
    by_cases e : i = m
    · subst e
      have lt : i < ρ.length := by
        have := (List.getElem?_eq_some_iff.mp hm).1
        rwa [List.length_set] at this
      exact .inl ⟨rfl, List.getElem?_set_self (by rw [← st.len]; exact lt)⟩
    · rw [List.getElem?_set_ne e] at hm
      exact .inr ⟨e, hm, List.getElem?_set_ne e⟩
  refine ⟨st.base, by rw [List.length_set, List.length_set]; exact st.len, fun j cj hj => ?_, fun j k cj ck b hjk hj hk oj ok sj sk => ?_, fun p hp => ?_, (List.nodup_cons.mp st.pnd).2⟩
  · by_cases e : i = j
    · subst e
      have lt : i < ρ.length := by
        have := (List.getElem?_eq_some_iff.mp hj).1
        rwa [List.length_set] at this
      rw [List.getElem?_set_self lt] at hj
      cases hj
      rw [List.getElem?_set_self (by rw [← st.len]; exact lt)]
      cases cl <;> cases o <;> first | exact r.elim | skip
      · exact ⟨a, _, rfl, pa, r, pw⟩
      · obtain ⟨rfl, rfl⟩ := r; exact ⟨a, rfl, pa, pw⟩
      · exact ⟨a, _, rfl, pa, r.1, r.2, pw⟩
      · exact ⟨a, _, rfl, pa, r.1, r.2, pw⟩
    · rw [List.getElem?_set_ne e] at hj ⊢
      exact st.ok j cj hj
  · rcases g1 hj oj with ⟨ej, h2⟩ | ⟨ej, h1, h2⟩ <;> rcases g1 hk ok with ⟨ek, h4⟩ | ⟨ek, h3, h4⟩
    · exact hjk (ej.symm.trans ek)
    · rw [h2] at sj
      cases sj
      rw [h4] at sk
      exact pn k ck h3 ok sk
    · rw [h4] at sk
      cases sk
      rw [h2] at sj
      exact pn j cj h1 oj sj
    · exact st.ne j k cj ck b hjk h1 h3 oj ok (by rw [← h2]; exact sj) (by rw [← h4]; exact sk)
  · obtain ⟨h1, h2, h3, h4⟩ := st.pin p (List.mem_cons_of_mem _ hp)
    refine ⟨h1, h2, h3, fun m cm hm om => ?_⟩
    rcases g1 hm om with ⟨em, h6⟩ | ⟨_, h5, h6⟩
    · rw [h6]
      intro z
      have z : a = p.1 := by injection (Option.some.inj (Option.some.inj z))
      exact hn p hp z.symm
    · rw [h6]
      exact h4 m cm h5 om
/-- a pinned object is frozen -/
theorem StD.unpin {a : Addr} {o : HO} (st : StD c g0 H0 g H ρ σ ((a, o) :: τ)) {cl : Cell} (r : CellHO c.K g cl o) : ∃ g' d, g.le g' ∧ cellD cl = some d ∧ StD c g0 H0 g' H ρ σ τ ∧ Rep c.K g' (.ref a) d := by
  obtain ⟨pa, pw, pt, pn⟩ := st.pin (a, o) List.mem_cons_self
  have hn : ∀ p ∈ τ, p.1 ≠ a := fun p hp z => (List.nodup_cons.mp st.pnd).1 (List.mem_map.mpr ⟨p, hp, z⟩)
  -- a ghost slot would do: freeze by hand
  have fl : ∀ b u, g.F b = some u → upd g.F a o b = some u := fun b u e => by rw [upd_ne (ne_of_none e pw.2.1)]; exact e
  have le : g.le ⟨upd g.F a o, g.rw⟩ := ⟨fl, fun _ h => h⟩
  have st2 := (st.setO (i := ρ.length) r)
  rw [List.set_eq_of_length_le (Nat.le_refl _), List.set_eq_of_length_le (by rw [st.len]; exact Nat.le_refl _)] at st2
  have ow : ∀ {b}, Own H0 g b → b ≠ a → Own H0 ⟨upd g.F a o, g.rw⟩ b := fun {b} w' n => ⟨w'.1, by show upd g.F a o b = none; rw [upd_ne n]; exact w'.2.1, w'.2.2⟩
  have rr : ∃ d, cellD cl = some d ∧ Rep c.K ⟨upd g.F a o, g.rw⟩ (.ref a) d := by
    cases cl <;> cases o <;> first | exact r.elim | skip
    · exact ⟨_, rfl, .lst upd_same (Reps.mono le r)⟩
    · obtain ⟨rfl, rfl⟩ := r; exact ⟨_, rfl, .set upd_same⟩
    · exact ⟨_, rfl, .dic upd_same r.1 (Reps.mono le r.2)⟩
    · exact ⟨_, rfl, .dtu upd_same r.1 (Reps.mono le r.2)⟩
  obtain ⟨d, hd, rr⟩ := rr
  refine ⟨_, d, le, hd, ⟨?_, st2.len, fun j cj hj => ?_, st2.ne, fun p hp => ?_, st2.pnd⟩, rr⟩
  · have b := st.base
    refine ⟨b.le.trans le, fun b u h => ?_, fun b ps h => ?_, fun b u h => ?_, fun r h => ?_, b.rwn, b.there, b.keep, b.tab⟩
    · have h : upd g.F a o b = some u := h
      by_cases e : b = a
      · subst e; rw [upd_same] at h; cases h; exact pa
      · rw [upd_ne e] at h; exact st.base.sub _ _ h
    · have h : upd g.F a o b = some (.tbl ps) := h
      by_cases e : b = a
      · subst e; rw [upd_same] at h; exact (plainO_nt pt).1 ps (Option.some.inj h)
      · rw [upd_ne e] at h; exact st.base.ntb _ _ h
    · have h : upd g.F a o b = some u := h
      by_cases e : b = a
      · subst e; exact .inr pw.1
      · rw [upd_ne e] at h; exact st.base.fr _ _ h
    · have hr : r ≠ a := fun e => pw.2.2 (by rw [← e]; exact h)
      obtain ⟨h1, sa, ns, i, j, k, h2, h3, h4⟩ := b.row r h
      exact ⟨by show upd g.F a o r = none; rw [upd_ne hr]; exact h1, sa, ns, i, j, k, h2, sqL_mono (fl sa) h3, h4⟩
  · have z := st2.ok j cj hj
    have na : ∀ b, cj.own = true → σ[j]? = some (some (.ref b)) → b ≠ a := fun b ho sj z => by
      subst z
      exact pn j cj hj ho sj
    cases cj with
    | off => trivial
    | scr ns => obtain ⟨b, e, h⟩ := z; exact ⟨b, e, sqL_mono (fl b) h⟩
    | fz x => obtain ⟨v, e, r⟩ := z; exact ⟨v, e, r.mono le⟩
    | ow ds => obtain ⟨b, xs, e, h1, r, w⟩ := z; exact ⟨b, xs, e, h1, r.mono le, ow w (na b rfl e)⟩
    | os S n => obtain ⟨b, e, h1, w⟩ := z; exact ⟨b, e, h1, ow w (na b rfl e)⟩
    | od ds => obtain ⟨b, kvs, e, h1, k, r, w⟩ := z; exact ⟨b, kvs, e, h1, k, r.mono le, ow w (na b rfl e)⟩
    | ot ds => obtain ⟨b, kvs, e, h1, k, r, w⟩ := z; exact ⟨b, kvs, e, h1, k, r.mono le, ow w (na b rfl e)⟩
    | ob b C ds =>
      obtain ⟨dx, fs, e, h1, h2, k, r, w, w2⟩ := z
      refine ⟨dx, fs, e, h1, h2, k, r.mono le, ow w (na b rfl e), ow w2 fun z => ?_⟩
      subst z
      rw [pa] at h2
      exact (CellHO.own ‹CellHO c.K g cl o›).2.2 _ (Option.some.inj h2)
  · obtain ⟨h1, h2, h3, h4⟩ := st2.pin p hp
    exact ⟨h1, ow h2 (hn p hp), h3, h4⟩
end
end D7
namespace D7
open PySem PySem.Spec PyProof.Rows L2
section
variable {c : Cfg} {g0 g g' : Gh} {H0 H H' : Hp} {ρ : List Cell} {σ : L2.St} {τ : List (Addr × HO)}
/-- a new object, not frozen -/
theorem Base.grow (b : Good c g H) {p : Addr} {o : HO} (hp : H p = none) : Base c g H g (upd H p o) := by
  have ex : ∀ b u, H b = some u → upd H p o b = some u := fun b u e => by rw [upd_ne (ne_of_none e hp)]; exact e
  refine ⟨g.le_refl, fun a u h => ex a u (b.sub a u h), b.ntb, fun _ _ h => .inl h, fun r h => ?_, fun _ h => .inl h, fun a h => ?_, fun a u h _ _ => ex a u h, ?_, fun P hP => ?_⟩
  · obtain ⟨h1, sa, ns, i, j, k, h2, h3, h4⟩ := b.row r h
    exact ⟨h1, sa, ns, i, j, k, ex _ _ h2, h3, h4⟩
  · cases q : H a with
    | none => exact absurd q h
    | some u => rw [ex a u q]; exact fun z => nomatch z
  · exact b.tab.1.ext ex
  · obtain ⟨ps, h1, h2⟩ := b.tab.2 P hP
    exact ⟨ps, ex _ _ h1, h2⟩
theorem StD.fresh (st : StD c g0 H0 g H ρ σ τ) {p : Addr} (hp : H p = none) : Own H0 g p := by
  refine ⟨?_, ?_, fun z => ?_⟩
  · cases q : H0 p with
    | none => rfl
    | some u => exact absurd hp (st.base.there p (by rw [q]; exact fun z => nomatch z))
  · cases q : g.F p with
    | none => rfl
    | some u => rw [st.base.sub p u q] at hp; cases hp
  · obtain ⟨_, sa, ns, i, j, k, h2, _⟩ := st.base.row p z
    rw [hp] at h2; cases h2
theorem StD.new (st : StD c g0 H0 g H ρ σ τ) {p : Addr} {o : HO} (hp : H p = none) (nt : plainO o = true) : StD c g0 H0 g (upd H p o) ρ σ ((p, o) :: τ) := by
  have s2 := st.step (st.base.good.grow (o := o) hp)
  have w := st.fresh hp
  refine ⟨s2.base, s2.len, s2.ok, s2.ne, fun q hq => ?_, List.nodup_cons.mpr ⟨fun hm => ?_, st.pnd⟩⟩
  · rcases List.mem_cons.mp hq with e | hq
    · subst e
      refine ⟨upd_same, w, nt, fun i cl hi ow z => ?_⟩
      have y := st.ok i cl hi
      cases cl with
      | off => cases ow
      | scr ns => cases ow
      | fz d => cases ow
      | ow ds => obtain ⟨a, xs, e, h1, _⟩ := y; rw [z] at e; cases e; have h1 : H p = _ := h1; rw [hp] at h1; cases h1
      | os S n => obtain ⟨a, e, h1, _⟩ := y; rw [z] at e; cases e; have h1 : H p = _ := h1; rw [hp] at h1; cases h1
      | od ds => obtain ⟨a, xs, e, h1, _⟩ := y; rw [z] at e; cases e; have h1 : H p = _ := h1; rw [hp] at h1; cases h1
      | ot ds => obtain ⟨a, xs, e, h1, _⟩ := y; rw [z] at e; cases e; have h1 : H p = _ := h1; rw [hp] at h1; cases h1
      | ob a C ds => obtain ⟨dx, xs, e, h1, _⟩ := y; rw [z] at e; cases e; have h1 : H p = _ := h1; rw [hp] at h1; cases h1
    · exact s2.pin q hq
  · obtain ⟨q, hq, e⟩ := List.mem_map.mp hm
    have := (st.pin q hq).1
    rw [e, hp] at this; cases this
/-- a slot is forgotten -/
theorem StD.off (st : StD c g0 H0 g H ρ σ τ) (i : Nat) : StD c g0 H0 g H (ρ.set i .off) (σ.set i none) τ := by
  have g1 : ∀ {m : Nat} {cm : Cell}, (ρ.set i .off)[m]? = some cm → cm.own = true → i ≠ m ∧ ρ[m]? = some cm ∧ (σ.set i none)[m]? = σ[m]? := fun {m cm} hm om => by
    by_cases e : i = m
    · subst e
      by_cases lt : i < ρ.length
      · rw [List.getElem?_set_self lt] at hm; cases hm; cases om
      · rw [List.getElem?_eq_none (by rw [List.length_set]; omega)] at hm; cases hm
    · rw [List.getElem?_set_ne e] at hm
      exact ⟨e, hm, List.getElem?_set_ne e⟩
  refine ⟨st.base, by rw [List.length_set, List.length_set]; exact st.len, fun j cj hj => ?_, fun j k cj ck b hjk hj hk oj ok sj sk => ?_, fun p hp => ?_, st.pnd⟩
  · by_cases e : i = j
    · subst e
      have lt : i < ρ.length := by
        have := (List.getElem?_eq_some_iff.mp hj).1
        rwa [List.length_set] at this
      rw [List.getElem?_set_self lt] at hj
      cases hj
      trivial
    · rw [List.getElem?_set_ne e] at hj ⊢
      exact st.ok j cj hj
  · obtain ⟨_, h1, h2⟩ := g1 hj oj
    obtain ⟨_, h3, h4⟩ := g1 hk ok
    exact st.ne j k cj ck b hjk h1 h3 oj ok (by rw [← h2]; exact sj) (by rw [← h4]; exact sk)
  · obtain ⟨h1, h2, h3, h4⟩ := st.pin p hp
    refine ⟨h1, h2, h3, fun m cm hm om => ?_⟩
    obtain ⟨_, h5, h6⟩ := g1 hm om
    rw [h6]
    exact h4 m cm h5 om
def wipeC (ρ : List Cell) : List Nat → List Cell
  | [] => ρ
  | v :: vs => (wipeC ρ vs).set v .off
theorem StD.wipe (st : StD c g0 H0 g H ρ σ τ) : ∀ vs : List Nat, StD c g0 H0 g H (wipeC ρ vs) (L2.wipe σ vs) τ
  | [] => st
  | v :: vs => (st.wipe vs).off v
def keepF : Option Cell → Cell
  | some (.fz d) => .fz d
  | _ => .off
/-- behind a comprehension: its own names are what they were -/
def unwipe (ρ ρt : List Cell) : List Nat → List Cell
  | [] => ρt
  | v :: vs => (unwipe ρ ρt vs).set v (keepF ρ[v]?)
theorem unwipe_length (ρ ρt : List Cell) : ∀ vs, (unwipe ρ ρt vs).length = ρt.length
  | [] => rfl
  | v :: vs => by unfold unwipe; rw [List.length_set, unwipe_length ρ ρt vs]
theorem unwipe_get {ρ ρt : List Cell} (hl : ρ.length = ρt.length) {i : Nat} {cl : Cell} : ∀ {vs : List Nat}, (unwipe ρ ρt vs)[i]? = some cl → (i ∉ vs ∧ ρt[i]? = some cl) ∨ (i ∈ vs ∧ cl = keepF ρ[i]?)
  | [], h => .inl ⟨by simp, h⟩
  | v :: vs, h => by
    unfold unwipe at h
    by_cases e : v = i
    · subst e
      have lt := (List.getElem?_eq_some_iff.mp h).1
      rw [List.length_set] at lt
      rw [List.getElem?_set_self lt] at h
      exact .inr ⟨by simp, (Option.some.inj h).symm⟩
    · rw [List.getElem?_set_ne e] at h
      rcases unwipe_get hl h with ⟨h1, h2⟩ | ⟨h1, h2⟩
      · exact .inl ⟨by simp only [List.mem_cons, not_or]; exact ⟨fun z => e z.symm, h1⟩, h2⟩
      · exact .inr ⟨List.mem_cons_of_mem _ h1, h2⟩
theorem StD.unwipe {ρt : List Cell} (st : StD c g0 H0 g H ρ σ τ) {vs : List Nat} {τ' : List (Addr × HO)} (l : g.le g') (st' : StD c g0 H0 g' H' ρt (L2.wipe σ vs) τ') : StD c g0 H0 g' H' (D7.unwipe ρ ρt vs) σ τ' := by
  have hl : ρ.length = ρt.length := by rw [st.len, st'.len, wipe_length]
  have g1 : ∀ {m : Nat} {cm : Cell}, (D7.unwipe ρ ρt vs)[m]? = some cm → cm.own = true → ρt[m]? = some cm ∧ (L2.wipe σ vs)[m]? = σ[m]? := fun {m cm} hm om => by
    rcases unwipe_get hl hm with ⟨h1, h2⟩ | ⟨h1, h2⟩
    · exact ⟨h2, wipe_out h1⟩
    · subst h2
      unfold keepF at om
      split at om <;> cases om
  refine ⟨st'.base, by rw [unwipe_length, st'.len, wipe_length], fun i cl hi => ?_, fun j k cj ck b hjk hj hk oj ok sj sk => ?_, fun p hp => ?_, st'.pnd⟩
  · rcases unwipe_get hl hi with ⟨h1, h2⟩ | ⟨h1, h2⟩
    · have := st'.ok i cl h2
      rwa [wipe_out h1] at this
    · subst h2
      cases q : ρ[i]? with
      | none => trivial
      | some cl =>
        cases cl <;> first | trivial | skip
        obtain ⟨v, e, r⟩ := st.ok i _ q
        exact ⟨v, e, r.mono l⟩
  · obtain ⟨h1, h2⟩ := g1 hj oj
    obtain ⟨h3, h4⟩ := g1 hk ok
    exact st'.ne j k cj ck b hjk h1 h3 oj ok (by rw [h2]; exact sj) (by rw [h4]; exact sk)
  · obtain ⟨h1, h2, h3, h4⟩ := st'.pin p hp
    refine ⟨h1, h2, h3, fun m cm hm om => ?_⟩
    obtain ⟨h5, h6⟩ := g1 hm om
    rw [← h6]
    exact h4 m cm h5 om
/-- σ differs only at ws: wiped alike -/
theorem wipe_eq {σ2 : L2.St} {ws vs : List Nat} (hl : σ2.length = σ.length) (h : ∀ i, i ∉ ws → σ2[i]? = σ[i]?) (hs : ∀ i ∈ ws, i ∈ vs) : L2.wipe σ2 vs = L2.wipe σ vs := by
  refine List.ext_getElem? fun i => ?_
  by_cases hi : i ∈ vs
  · have key : ∀ (σ : L2.St), (L2.wipe σ vs)[i]? = if i < σ.length then some none else none := fun σ => by
      by_cases lt : i < σ.length
      · rw [if_pos lt]
        cases q : (L2.wipe σ vs)[i]? with
        | none =>
          have := List.getElem?_eq_none_iff.mp q
          rw [wipe_length] at this; omega
        | some u =>
          cases u with
          | none => rfl
          | some x => exact absurd hi (wipe_some q).2
      · rw [if_neg lt]
        exact List.getElem?_eq_none (by rw [wipe_length]; omega)
    rw [key, key, hl]
  · rw [wipe_out hi, wipe_out hi]
    exact h i fun z => hi (hs i z)
theorem wipe_wipe : ∀ (σ : L2.St) (vs : List Nat), L2.wipe (L2.wipe σ vs) vs = L2.wipe σ vs := fun σ vs => by
  refine wipe_eq (ws := vs) (wipe_length σ vs) (fun i hi => wipe_out hi) fun i h => h
end
/-! ### cells -/
section
variable {X : Cx} {c : Cfg} {E : XK} {a b : Expr} {es : List Expr} {pos : Pos} {ta tb : DW} {ha hb : DH} {t u : DT}
def cOf (td : DW) : DC := fun ρ q ex => td ρ (fun d ρ' => q (.fz d) ρ') ex
def dOf (tc : DC) : DW := fun ρ q ex => tc ρ (fun cl ρ' => ∃ d, cellD cl = some d ∧ q d ρ') ex
theorem pc_of (h : PD X c E a ta) : PC X c E a (cOf ta) := h.imp fun σ H Q ⟨g0, H0, g, ρ, τ, q, ex, st, h1, hx, k⟩ => ⟨g0, H0, g, ρ, τ, _, ex, st, h1, hx, fun d ρ' v g' H' h2 l s r => k (.fz d) ρ' v g' H' [] h2 l s (.fz r)⟩
theorem pd_ofC {tc : DC} (h : PC X c E a tc) : PD X c E a (dOf tc) := h.imp fun σ H Q ⟨g0, H0, g, ρ, τ, q, ex, st, h1, hx, k⟩ => by
  refine ⟨g0, H0, g, ρ, τ, _, ex, st, h1, hx, fun cl ρ' v g' H' τ' h2 l s r => ?_⟩
  obtain ⟨d, h3, h4⟩ := h2
  cases r with
  | fz r => cases h3; exact k _ ρ' v g' H' h4 l s r
  | own r =>
    obtain ⟨g2, d2, l2, e2, s2, r2⟩ := s.unpin r
    rw [h3] at e2; cases e2
    exact k d ρ' _ g2 H' h4 (l.trans l2) s2 r2
def cLst (t : DA) : DC := fun ρ q ex => t ρ (fun ds ρ1 => ds.length ≤ sizeLine ∧ q (.ow ds) ρ1) ex
theorem pc_lst {t : DA} (h : PDA X c E es t) : PC X c E (.List es pos) (cLst t) := (pe_lst h).imp fun σ H Q ⟨g0, H0, g, ρ, τ, q, ex, st, h, hx, kk⟩ => by
  refine ⟨g0, H0, g, ρ, τ, _, ex, st, h, hx, fun ds ρ1 vs g1 H1 h1 l1 st1 r1 => ⟨by rw [r1.length]; exact h1.1, fun p hp => ?_⟩⟩
  exact kk _ ρ1 _ _ _ [(p, .lst vs)] h1.2 l1 (st1.new hp rfl) (.own r1)
/-- an operation that makes a new list -/
def OpL (c : Cfg) (r : R2) (k : D → D → (List D → Prop) → Prop) : Prop := ∀ g H x y d e (p : List D → Prop) (Q : VK), Good c g H → Sh c.K g H x d → Sh c.K g H y e → k d e p → (∀ ds xs a, p ds → Reps c.K g xs ds → H a = none → Q (.ref a) (upd H a (.lst xs))) → r x y H Q
def CallL (c : Cfg) (r : List V → Hp → VK → Prop) (k : List D → (List D → Prop) → Prop) : Prop := ∀ g H xs ds (p : List D → Prop) (Q : VK), Good c g H → Shs c.K g H xs ds → k ds p → (∀ ds xs a, p ds → Reps c.K g xs ds → H a = none → Q (.ref a) (upd H a (.lst xs))) → r xs H Q
def cOp (k : D → D → (List D → Prop) → Prop) (ha hb : DH) : DC := fun ρ q ex => ha ρ (fun x ρ1 => hb ρ1 (fun y ρ2 => ∃ d e, res ρ2 x = some d ∧ res ρ2 y = some e ∧ k d e fun ds => q (.ow ds) ρ2) ex) ex
theorem pc_op {op : Operator} {r : R2} {k : D → D → (List D → Prop) → Prop} (ho : OpR X (binaryOp op) r) (hk : OpL c r k) (h1 : PH X c E a ha) (h2 : PH X c E b hb) : PC X c E (.BinOp a op b pos) (cOp k ha hb) :=
  (pe_op ho h1 h2).imp fun σ H Q h => by
    obtain ⟨g0, H0, g, ρ, τ, q, ex, st, h, hx, kk⟩ := h
    refine ⟨g0, H0, g, ρ, τ, _, ex, st, h, hx, fun x ρ1 v g1 H1 h1 l1 st1 r1 => ⟨g0, H0, g1, ρ1, τ, _, ex, st1, h1, hx, fun y ρ2 u g2 H2 h2 l2 st2 r2 => ?_⟩⟩
    obtain ⟨d, e, e1, e2, h3⟩ := h2
    exact hk g2 H2 v u d e _ _ st2.base.good ((r1.mono l2).sh st2 e1) (r2.sh st2 e2) h3 fun ds xs p hp hr hn => kk _ ρ2 _ g2 _ [(p, .lst xs)] hp (l1.trans l2) (st2.new hn rfl) (.own hr)
def kRep : D → D → (List D → Prop) → Prop := fun d e p => match d, e with
  | .lst xs, .int k => -(2 ^ 63) ≤ k ∧ k < 2 ^ 63 ∧ xs.length * k.toNat ≤ sizeLine ∧ p (List.replicate k.toNat xs).flatten
  | _, _ => False
theorem opl_rep : OpL c L2.rRep kRep := by
  intro g H x y d e p Q b rx ry h n
  cases d <;> cases e <;> first | exact h.elim | skip
  obtain ⟨a, xs, e1, hx, rs⟩ := rx.lst' b
  obtain ⟨h1, h2, h3, hp⟩ := h
  exact ⟨a, _, xs, e1, ry.int, hx, h1, h2, by rw [rs.length]; exact h3, fun q hq => n _ _ q hp (rs.rep _) hq⟩
def kCat : D → D → (List D → Prop) → Prop := fun d e p => match d, e with
  | .lst xs, .lst ys => xs.length + ys.length ≤ sizeLine ∧ p (xs ++ ys)
  | _, _ => False
theorem opl_cat : OpL c L2.rCat kCat := by
  intro g H x y d e p Q b rx ry h n
  cases d <;> cases e <;> first | exact h.elim | skip
  obtain ⟨a, xs, e1, hx, rs⟩ := rx.lst' b
  obtain ⟨a2, ys, e2, hy, rt⟩ := ry.lst' b
  exact ⟨a, a2, xs, ys, e1, e2, hx, hy, by rw [rs.length, rt.length]; exact h.1, fun q hq => n _ _ q h.2 (rs.append rt) hq⟩
/-! ### statements -/
def sDrop (td : DW) : DS := fun ρ k ex => td ρ (fun _ ρ' => k.nx ρ') ex
theorem ds_expr (h : PD X c E a ta) (hs : swapsWith a none pos.line X.env = pure false := by rfl) : PDS X c E (.Expr a pos) (sDrop ta) := (ps_expr h hs).imp fun N σ H ⟨g0, H0, g, ρ, τ, k, ex, st, h, hx, n1, n2, n3, n4⟩ =>
  ⟨g0, H0, g, ρ, τ, _, ex, st, h, hx, fun d ρ' v g' H' h2 l s r => n1 ρ' σ g' H' h2 l s⟩
def sRet (td : DW) : DS := fun ρ k ex => td ρ (fun d ρ' => k.rt d ρ') ex
theorem ds_ret (h : PD X c E a ta) : PDS X c E (.Return (some a) pos) (sRet ta) := (ps_ret h).imp fun N σ H ⟨g0, H0, g, ρ, τ, k, ex, st, h, hx, n1, n2, n3, n4⟩ =>
  ⟨g0, H0, g, ρ, τ, _, ex, st, h, hx, fun d ρ' v g' H' h2 l s r => n2 d v ρ' σ g' H' h2 l s r⟩
def sRetN : DS := fun ρ k _ => k.rt .non ρ
theorem ds_retN : PDS X c E (.Return none pos) sRetN := ps_retN.imp fun N σ H ⟨g0, H0, g, ρ, τ, k, ex, st, h, hx, n1, n2, n3, n4⟩ => n2 .non .non ρ σ g H h g.le_refl st .non
def sNx : DS := fun ρ k _ => k.nx ρ
def sBk : DS := fun ρ k _ => k.bk ρ
def sCt : DS := fun ρ k _ => k.ct ρ
theorem ds_pass : PDS X c E (.Pass pos) sNx := ps_pass.imp fun N σ H ⟨g0, H0, g, ρ, τ, k, ex, st, h, hx, n1, n2, n3, n4⟩ => n1 ρ σ g H h g.le_refl st
theorem ds_break : PDS X c E (.Break pos) sBk := ps_break.imp fun N σ H ⟨g0, H0, g, ρ, τ, k, ex, st, h, hx, n1, n2, n3, n4⟩ => n3 ρ σ g H h g.le_refl st
theorem ds_cont : PDS X c E (.Continue pos) sCt := ps_continue.imp fun N σ H ⟨g0, H0, g, ρ, τ, k, ex, st, h, hx, n1, n2, n3, n4⟩ => n4 ρ σ g H h g.le_refl st
def sSet (i : Nat) (tc : DC) : DS := fun ρ k ex => tc ρ (fun cl ρ' => k.nx (ρ'.set i cl)) ex
theorem ds_set {i : Nat} {x : Str} {pos' : Pos} {tc : DC} (hN : X.N.Nodup) (hi : X.N[i]? = some x) (hx : Loc X.env.scope x) (h : PC X c E a tc) (hs : swapsWith a (some (.Name x pos')) pos.line X.env = pure false := by rfl)
    (hf : X.fn x = true ∨ X.env.scope.names.lookup x = some .local := by first | exact .inl rfl | exact .inr rfl | assumption) : PDS X c E (.Assign [.Name x pos'] a pos) (sSet i tc) := (ps_set hN hi hx h hs hf).imp fun N σ H ⟨g0, H0, g, ρ, τ, k, ex, st, h, hx, n1, n2, n3, n4⟩ => by
  refine ⟨g0, H0, g, ρ, τ, _, ex, st, h, hx, fun cl ρ' v g' H' τ' h2 l s r => ?_⟩
  cases r with
  | fz r => exact n1 _ _ g' H' h2 l (s.setF r)
  | own r => exact n1 _ _ g' H' h2 l (s.setO r)
def sIf (t : DT) (u w : DS) : DS := fun ρ k ex => t ρ (fun b ρ1 => bIf b (u ρ1 k ex) (w ρ1 k ex)) ex
theorem ds_if {e : Expr} {s1 s2 : List Stmt} {u w : DS} (h : PDT X c E e t) (h1 : PDSs X c E s1 u) (h2 : PDSs X c E s2 w) : PDS X c E (.If e s1 s2 pos) (sIf t u w) := (ps_if h h1 h2).imp fun N σ H ⟨g0, H0, g, ρ, τ, k, ex, st, h, hx, n1, n2, n3, n4⟩ => by
  refine ⟨g0, H0, g, ρ, τ, _, ex, st, h, hx, fun b ρ1 g1 H1 h1 l1 st1 => ?_⟩
  cases b <;> exact ⟨g0, H0, g1, ρ1, τ, k, ex, st1, h1, hx, fun ρ' σ' g' H' h l s => n1 ρ' σ' g' H' h (l1.trans l) s, fun d v ρ' σ' g' H' h l s r => n2 d v ρ' σ' g' H' h (l1.trans l) s r, fun ρ' σ' g' H' h l s => n3 ρ' σ' g' H' h (l1.trans l) s, fun ρ' σ' g' H' h l s => n4 ρ' σ' g' H' h (l1.trans l) s⟩
def sSeq (u w : DS) : DS := fun ρ k ex => u ρ { k with nx := fun ρ' => w ρ' k ex } ex
theorem dss_nil : PDSs X c E [] sNx := pss_nil.imp fun N σ H ⟨g0, H0, g, ρ, τ, k, ex, st, h, hx, n1, n2, n3, n4⟩ => n1 ρ σ g H h g.le_refl st
theorem dss_cons {s : Stmt} {ss : List Stmt} {u w : DS} (h : PDS X c E s u) (h1 : PDSs X c E ss w) : PDSs X c E (s :: ss) (sSeq u w) := (pss_cons h h1).imp fun N σ H ⟨g0, H0, g, ρ, τ, k, ex, st, h, hx, n1, n2, n3, n4⟩ =>
  ⟨g0, H0, g, ρ, τ, _, ex, st, h, hx, fun ρ1 σ1 g1 H1 h1 l1 st1 => ⟨g0, H0, g1, ρ1, τ, k, ex, st1, h1, hx, fun ρ' σ' g' H' h l s => n1 ρ' σ' g' H' h (l1.trans l) s, fun d v ρ' σ' g' H' h l s r => n2 d v ρ' σ' g' H' h (l1.trans l) s r, fun ρ' σ' g' H' h l s => n3 ρ' σ' g' H' h (l1.trans l) s, fun ρ' σ' g' H' h l s => n4 ρ' σ' g' H' h (l1.trans l) s⟩, n2, n3, n4⟩
theorem dss_one {s : Stmt} {u : DS} (h : PDS X c E s u) : PDSs X c E [s] u := pss_one h
/-- name op= e, on values -/
def sAug (i : Nat) (k : D → D → (D → Prop) → Prop) (hb : DH) : DS := fun ρ kk ex => ∃ d, ρ[i]? = some (.fz d) ∧ hb ρ (fun y ρ1 => ∃ e, res ρ1 y = some e ∧ k d e fun z => kk.nx (ρ1.set i (.fz z))) ex
theorem ds_aug {i : Nat} {x : Str} {pos' : Pos} {op : Operator} {r : R2} {k : D → D → (D → Prop) → Prop} (hN : X.N.Nodup) (hi : X.N[i]? = some x) (hx : Loc X.env.scope x) (ho : OpR X (inplaceOp op) r) (hk : OpD c r k) (h : PH X c E a hb)
    (hf : X.fn x = true ∨ X.env.scope.names.lookup x = some .local := by first | exact .inl rfl | exact .inr rfl | assumption) : PDS X c E (.AugAssign (.Name x pos') op a pos) (sAug i k hb) := (ps_aug hN hi hx h ho hf).imp fun N σ H ⟨g0, H0, g, ρ, τ, kk, ex, st, ⟨d, hd, h⟩, hx, n1, n2, n3, n4⟩ => by
  obtain ⟨v, e1, r1⟩ := st.ok i _ hd
  refine ⟨v, e1, g0, H0, g, ρ, τ, _, ex, st, h, hx, fun y ρ' u g' H' h2 l s ry => ?_⟩
  obtain ⟨e, e2, h3⟩ := h2
  exact hk g' H' v u d e _ _ s.base.good (.rep (r1.mono l)) (ry.sh s e2) h3 fun z w g3 H3 p3 b3 r3 => n1 _ _ g3 H3 p3 (l.trans b3.le) ((s.step b3).setF r3)
/-! ### loops -/
def sWhile (t : DT) (u : DS) : DS := fun ρ k ex => ∃ W : Nat → List Cell → Prop, (∃ m, W m ρ) ∧ ∀ m ρ, W m ρ → t ρ (fun b ρ1 => bIf b (u ρ1 { nx := fun ρ' => ∃ m', m' < m ∧ W m' ρ', ct := fun ρ' => ∃ m', m' < m ∧ W m' ρ', bk := k.nx, rt := k.rt } ex) (k.nx ρ1)) ex
theorem ds_while {e : Expr} {body : List Stmt} {u : DS} (hp : PassesOwn (model X.prog X.w) X.A X.env X.xe) (h : PDT X c E e t) (h1 : PDSs X c E body u) : PDS X c E (.While e body [] pos) (sWhile t u) := (ps_while hp h h1).imp fun N σ H ⟨g0, H0, g, ρ, τ, k, ex, st, ⟨W, ⟨m0, w0⟩, turn⟩, hx, n1, n2, n3, n4⟩ => by
  refine ⟨fun m σ H => ∃ g1 ρ1, g.le g1 ∧ StD c g0 H0 g1 H ρ1 σ τ ∧ W m ρ1, ⟨m0, g, ρ, g.le_refl, st, w0⟩, ?_⟩
  rintro m σ1 H1 ⟨g1, ρ1, l1, st1, w1⟩
  refine ⟨g0, H0, g1, ρ1, τ, _, ex, st1, turn m ρ1 w1, hx, fun b ρ2 g2 H2 h2 l2 st2 => ?_⟩
  cases b with
  | false => exact n1 ρ2 σ1 g2 H2 h2 (l1.trans l2) st2
  | true =>
    refine ⟨fun σ' H' => ∃ m', m' < m ∧ ∃ g1 ρ1, g.le g1 ∧ StD c g0 H0 g1 H' ρ1 σ' τ ∧ W m' ρ1, fun σ' H' ⟨m', hm, w⟩ => ⟨m', hm, w⟩, ?_⟩
    exact ⟨g0, H0, g2, ρ2, τ, _, ex, st2, h2, hx, fun ρ' σ' g' H' ⟨m', hm, w⟩ l s => ⟨m', hm, g', ρ', (l1.trans l2).trans l, s, w⟩, fun d v ρ' σ' g' H' h l s r => n2 d v ρ' σ' g' H' h ((l1.trans l2).trans l) s r, fun ρ' σ' g' H' h l s => n1 ρ' σ' g' H' h ((l1.trans l2).trans l) s,
      fun ρ' σ' g' H' ⟨m', hm, w⟩ l s => ⟨m', hm, g', ρ', (l1.trans l2).trans l, s, w⟩⟩
abbrev DI := List Cell → (List D → List Cell → Prop) → XD → Prop
/-- the iterator yields the items -/
def ItOk (c : Cfg) (g : Gh) (J : It) (items : List D) : Prop := ∀ (i : Nat) g1 H1, g.le g1 → Good c g1 H1 → (∀ d, items[i]? = some d → J.go i H1 ∧ ∀ x H2, J.yld i H1 x H2 → ∃ g2, Base c g1 H1 g2 H2 ∧ Rep c.K g2 x d) ∧ (items.length ≤ i → J.stop i H1)
def liftI (c : Cfg) (E : XK) (ti : DI) : TI := fun σ H R => ∃ g0 H0 g ρ τ q ex, StD c g0 H0 g H ρ σ τ ∧ ti ρ q ex ∧ ExcK c g0 H0 ex E ∧
  ∀ items ρ' J g' H', q items ρ' → g.le g' → StD c g0 H0 g' H' ρ' σ τ → ItOk c g' J items → R J H'
theorem _root_.L2.PI.imp {X : Cx} {tg e : Expr} {t t' : TI} (h : PI X tg e t) (i : ∀ σ H Q, t' σ H Q → t σ H Q) : PI X tg e t' := ⟨fun pins s σ H R I w => h.run pins s σ H R I (i σ H R w)⟩
abbrev PDI (X : Cx) (c : Cfg) (E : XK) (tg iter : Expr) (ti : DI) : Prop := PI X tg iter (liftI c E ti)
def seqD : D → Option (List D)
  | .lst ds => some ds
  | .tup ds => some ds
  | _ => none
def iSeq (td : DW) : DI := fun ρ q ex => td ρ (fun d ρ' => ∃ ds, seqD d = some ds ∧ q ds ρ') ex
theorem pi_either {tg e : Expr} {te : TE} (h : PE X e te) : PI X tg e (fun σ H R => te σ H fun x H1 => (∃ a, x = .ref a ∧ (∃ xs, SqL X.K H1 a xs) ∧ R (Itl X.K a) H1) ∨ (∃ a, x = .ref a ∧ (∃ xs, SqT X.K H1 a xs) ∧ R (Itt X.K a) H1)) := by
  refine ⟨fun pins s σ H R I w => ?_⟩
  have key : ∀ {P : V → Hp → Prop}, te σ H P → wpAny (model X.prog X.w) X.A (eval e X.env) (EP X pins σ P) X.xe s := fun {P} w => h.run pins s σ H P I w
  refine thn (key w) fun u s1 hh => ?_
  obtain ⟨x, H1, I1, r1, q⟩ := hh
  rcases q with q | q
  · obtain ⟨a, rfl, ⟨xs, hs⟩, hR⟩ := q
    cases r1
    obtain ⟨its, r, pl, hz⟩ := I1.list hs
    refine wpAny_pyIter_list pl.isList ?_
    have hlt : a < s1.heap.objs.size := pl.lt
    have I2 : Inv X pins σ H1 { s1 with heap := s1.heap.push { cls := .type "list_iterator", data := .fields #[.ref a, .int 0 0] } } := I1.kept (t' := s1.toks) fun b o e => Heap.get?_push_of_some _ e
    exact ⟨s1.heap.objs.size, [s1.heap.objs.size], _, _, H1, rfl, I2, turn_list a _, ⟨_, Heap.get?_push_size _ rfl, rfl, rfl⟩, fun b hb => by
      rw [List.mem_singleton.mp hb]
      exact (I1.fpOk (Nat.le_refl _) (I1.hok.fresh (Nat.le_refl _))), hR⟩
  · obtain ⟨a, rfl, ⟨xs, hs⟩, hR⟩ := q
    cases r1
    obtain ⟨its, r, pl, hz⟩ := I1.tuple hs
    refine wpAny_pyIter_tuple (show s1.heap.IsTuple a its.toArray from pl) ?_
    have I2 : Inv X pins σ H1 { s1 with heap := s1.heap.push { cls := .type "tuple_iterator", data := .fields #[.ref a, .int 0 0] } } := I1.kept (t' := s1.toks) fun b o e => Heap.get?_push_of_some _ e
    exact ⟨s1.heap.objs.size, [s1.heap.objs.size], _, _, H1, rfl, I2, turn_tuple a _, ⟨_, Heap.get?_push_size _ rfl, rfl, rfl⟩, fun b hb => by
      rw [List.mem_singleton.mp hb]
      exact (I1.fpOk (Nat.le_refl _) (I1.hok.fresh (Nat.le_refl _))), hR⟩
end
end D7
namespace D7
open PySem PySem.Spec PyProof.Rows L2
/-! ### what is walked -/
section
variable {X : Cx} {c : Cfg} {E : XK} {a b tg : Expr} {es : List Expr} {pos : Pos} {ta tb : DW}
theorem itok_list {g : Gh} {a : Addr} {xs : List V} {ds : List D} (h : g.F a = some (.lst xs)) (r : Reps c.K g xs ds) : ItOk c g (Itl c.K a) ds := by
  intro i g1 H1 l b
  have hs : H1 a = some (.lst xs) := b.sub _ _ (l.1 _ _ h)
  have sq : SqL c.K H1 a xs := .inl (.inl hs)
  refine ⟨fun d hd => ?_, fun hl => ⟨xs, sq, by rw [r.length]; exact hl⟩⟩
  obtain ⟨v, hv, rv⟩ := r.get hd
  refine ⟨⟨xs, v, sq, hv⟩, fun x H2 ⟨e, y⟩ => ?_⟩
  subst e
  have := y xs sq
  rw [hv] at this
  cases this
  exact ⟨g1, b, rv.mono l⟩
theorem itok_tup {g : Gh} {a : Addr} {xs : List V} {ds : List D} (h : SqT c.K g.F a xs) (r : Reps c.K g xs ds) : ItOk c g (Itt c.K a) ds := by
  intro i g1 H1 l b
  have sq : SqT c.K H1 a xs := b.sqT (sqT_mono (l.1 _) h)
  refine ⟨fun d hd => ?_, fun hl => ⟨xs, sq, by rw [r.length]; exact hl⟩⟩
  obtain ⟨v, hv, rv⟩ := r.get hd
  refine ⟨⟨xs, v, sq, hv⟩, fun x H2 ⟨e, y⟩ => ?_⟩
  subst e
  have := y xs sq
  rw [hv] at this
  cases this
  exact ⟨g1, b, rv.mono l⟩
theorem pdi_seq (hK : X.K = c.K) (h : PD X c E a ta) : PDI X c E tg a (iSeq ta) := (pi_either h).imp fun σ H R ⟨g0, H0, g, ρ, τ, q, ex, st, h, hx, kk⟩ => by
  refine ⟨g0, H0, g, ρ, τ, _, ex, st, h, hx, fun d ρ' v g' H' h2 l s r => ?_⟩
  obtain ⟨ds, h3, h4⟩ := h2
  rw [hK]
  cases r with
  | lst h r => cases h3; exact .inl ⟨_, rfl, ⟨_, .inl (.inl (s.base.sub _ _ h))⟩, kk _ ρ' _ g' H' h4 l s (itok_list h r)⟩
  | tup h r => cases h3; exact .inr ⟨_, rfl, ⟨_, s.base.good.sqT h⟩, kk _ ρ' _ g' H' h4 l s (itok_tup h r)⟩
  | _ => cases h3
def rangeD (lo : Int) (n : Nat) : List D := (List.range n).map fun (k : Nat) => .int (lo + (k : Int))
theorem itok_range {g : Gh} (lo : Int) (n : Nat) : ItOk c g (Itr lo n) (rangeD lo n) := by
  intro i g1 H1 l b
  refine ⟨fun d hd => ?_, fun hl => by
    have : n ≤ i := by simpa [rangeD] using hl
    exact this⟩
  have lt : i < n := by
    have := (List.getElem?_eq_some_iff.mp hd).1
    simpa [rangeD] using this
  refine ⟨lt, fun x H2 ⟨e, y⟩ => ?_⟩
  subst e y
  refine ⟨g1, b, ?_⟩
  have : d = .int (lo + i) := by
    have := hd
    simp [rangeD, lt] at this
    exact this.symm
  rw [this]
  exact .int _
def iRng1D (t : DA) : DI := fun ρ q ex => t ρ (fun ds ρ1 => ∃ j, ds = [.int j] ∧ -(2 ^ 62) ≤ j ∧ j < 2 ^ 62 ∧ q (rangeD 0 j.toNat) ρ1) ex
def iRng2D (t : DA) : DI := fun ρ q ex => t ρ (fun ds ρ1 => ∃ i j, ds = [.int i, .int j] ∧ (-(2 ^ 62) ≤ i ∧ i < 2 ^ 62 ∧ -(2 ^ 62) ≤ j ∧ j < 2 ^ 62) ∧ q (rangeD i (j - i).toNat) ρ1) ex
theorem pdi_range1 {t : DA} {p : Pos} (hg : Gl X "range") (hm : X.mg "range" = none) (ha : PDA X c E [a] t) (hs : starEach [a] X.env = [(false, eval a X.env)] := by rfl) : PDI X c E tg (.Call (.Name "range" p) [a] [] pos) (iRng1D t) :=
  (pi_range1 hg hm ha hs).imp fun σ H R ⟨g0, H0, g, ρ, τ, q, ex, st, h, hx, kk⟩ => by
    refine ⟨g0, H0, g, ρ, τ, _, ex, st, h, hx, fun ds ρ' vs g' H' h2 l s r => ?_⟩
    obtain ⟨j, e, h3, h4, h5⟩ := h2
    subst e
    cases r with | cons r rr =>
    cases r; cases rr
    exact ⟨j, rfl, h3, h4, kk _ ρ' _ g' H' h5 l s (itok_range _ _)⟩
theorem pdi_range2 {t : DA} {p : Pos} (hg : Gl X "range") (hm : X.mg "range" = none) (ha : PDA X c E [a, b] t) (hs : starEach [a, b] X.env = [(false, eval a X.env), (false, eval b X.env)] := by rfl) (hs2 : starEach [b] X.env = [(false, eval b X.env)] := by rfl) : PDI X c E tg (.Call (.Name "range" p) [a, b] [] pos) (iRng2D t) :=
  (pi_range2 hg hm ha hs hs2).imp fun σ H R ⟨g0, H0, g, ρ, τ, q, ex, st, h, hx, kk⟩ => by
    refine ⟨g0, H0, g, ρ, τ, _, ex, st, h, hx, fun ds ρ' vs g' H' h2 l s r => ?_⟩
    obtain ⟨i, j, e, h3, h5⟩ := h2
    subst e
    cases r with | cons r rr =>
    cases rr with | cons r2 rr =>
    cases r; cases r2; cases rr
    exact ⟨i, j, rfl, h3, kk _ ρ' _ g' H' h5 l s (itok_range _ _)⟩
def zipD (xs ys : List D) : List D := List.zipWith (fun x y => .tup [x, y]) xs ys
theorem zipD_get {xs ys : List D} {i : Nat} {d : D} (h : (zipD xs ys)[i]? = some d) : ∃ x y, xs[i]? = some x ∧ ys[i]? = some y ∧ d = .tup [x, y] := by
  unfold zipD at h
  rw [List.getElem?_zipWith] at h
  cases h1 : xs[i]? with
  | none => rw [h1] at h; simp at h
  | some x =>
    cases h2 : ys[i]? with
    | none => rw [h1, h2] at h; simp at h
    | some y => rw [h1, h2] at h; exact ⟨x, y, rfl, rfl, (Option.some.inj h).symm⟩
theorem itok_zipL {g : Gh} {a b : Addr} {xs ys : List V} {ds es : List D} (h : g.F a = some (.lst xs)) (r : Reps c.K g xs ds) (h' : g.F b = some (.lst ys)) (r' : Reps c.K g ys es) : ItOk c g (Itz c.K a b) (zipD ds es) := by
  intro i g1 H1 l bb
  have sa : SqL c.K H1 a xs := .inl (.inl (bb.sub _ _ (l.1 _ _ h)))
  have sb : SqL c.K H1 b ys := .inl (.inl (bb.sub _ _ (l.1 _ _ h')))
  refine ⟨fun d hd => ?_, fun hl => ⟨xs, ys, sa, sb, ?_⟩⟩
  · obtain ⟨x, y, h1, h2, e⟩ := zipD_get hd
    obtain ⟨v, hv, rv⟩ := r.get h1
    obtain ⟨w, hw, rw'⟩ := r'.get h2
    refine ⟨⟨xs, ys, v, w, sa, sb, hv, hw⟩, fun z H2 ⟨T, v', w', e1, e2, e3, e4, e5⟩ => ?_⟩
    have e4 := e4 xs sa
    have e5 := e5 ys sb
    rw [hv] at e4; cases e4
    rw [hw] at e5; cases e5
    subst e1 e3 e
    exact ⟨_, bb.alloc e2 (fun _ => nofun), rep_tup bb e2 (.cons (rv.mono l) (.cons (rw'.mono l) .nil))⟩
  · rw [r.length, r'.length]
    unfold zipD at hl
    rw [List.length_zipWith] at hl
    omega
theorem itok_zipT {g : Gh} {a b : Addr} {xs ys : List V} {ds es : List D} (h : SqT c.K g.F a xs) (r : Reps c.K g xs ds) (h' : SqT c.K g.F b ys) (r' : Reps c.K g ys es) : ItOk c g (RZ.ItzT c.K a b) (zipD ds es) := by
  intro i g1 H1 l bb
  have sa : SqT c.K H1 a xs := bb.sqT (sqT_mono (l.1 _) h)
  have sb : SqT c.K H1 b ys := bb.sqT (sqT_mono (l.1 _) h')
  refine ⟨fun d hd => ?_, fun hl => ⟨xs, ys, sa, sb, ?_⟩⟩
  · obtain ⟨x, y, h1, h2, e⟩ := zipD_get hd
    obtain ⟨v, hv, rv⟩ := r.get h1
    obtain ⟨w, hw, rw'⟩ := r'.get h2
    refine ⟨⟨xs, ys, v, w, sa, sb, hv, hw⟩, fun z H2 ⟨T, v', w', e1, e2, e3, e4, e5⟩ => ?_⟩
    have e4 := e4 xs sa
    have e5 := e5 ys sb
    rw [hv] at e4; cases e4
    rw [hw] at e5; cases e5
    subst e1 e3 e
    exact ⟨_, bb.alloc e2 (fun _ => nofun), rep_tup bb e2 (.cons (rv.mono l) (.cons (rw'.mono l) .nil))⟩
  · rw [r.length, r'.length]
    unfold zipD at hl
    rw [List.length_zipWith] at hl
    omega
def iZipD (t : DA) : DI := fun ρ q ex => t ρ (fun ds ρ1 => ∃ xs ys, (ds = [.lst xs, .lst ys] ∨ ds = [.tup xs, .tup ys]) ∧ q (zipD xs ys) ρ1) ex
theorem pdi_zip {t : DA} {p tpos : Pos} {elts : List Expr} {kk : Nat} (hK : X.K = c.K) (hg : Gl X "zip") (hm : X.mg "zip" = none) (ha : PDA X c E [a, b] t)
    (hs : starEach [a, b] X.env = (false, eval a X.env) :: starEach [b] X.env := by rfl) (hpl : (backTo pos (starEach [b] X.env)).any (·.1) = false := by rfl) : PDI X c E (.Tuple elts kk tpos) (.Call (.Name "zip" p) [a, b] [] pos) (iZipD t) :=
  (RZ.pi_zipA hg hm ha hs hpl).imp fun σ H R ⟨g0, H0, g, ρ, τ, q, ex, st, h, hx, kk⟩ => by
    refine ⟨g0, H0, g, ρ, τ, _, ex, st, h, hx, fun ds ρ' vs g' H' h2 l s r => ?_⟩
    obtain ⟨xs, ys, e, h5⟩ := h2
    rw [hK]
    rcases e with e | e
    · subst e
      cases r with | cons r rr =>
      cases rr with | cons r2 rr =>
      cases rr
      cases r with | lst h1 r1 =>
      cases r2 with | lst h2 r2 =>
      exact ⟨_, _, _, _, rfl, .inl ⟨.inl (.inl (s.base.sub _ _ h1)), .inl (.inl (s.base.sub _ _ h2)), kk _ ρ' _ g' H' h5 l s (itok_zipL h1 r1 h2 r2)⟩⟩
    · subst e
      cases r with | cons r rr =>
      cases rr with | cons r2 rr =>
      cases rr
      cases r with | tup h1 r1 =>
      cases r2 with | tup h2 r2 =>
      exact ⟨_, _, _, _, rfl, .inr ⟨s.base.good.sqT h1, s.base.good.sqT h2, kk _ ρ' _ g' H' h5 l s (itok_zipT h1 r1 h2 r2)⟩⟩
/-! ### targets -/
def gNm (i : Nat) : DG := fun d ρ q _ => q (ρ.set i (.fz d))
theorem pdg_name {i : Nat} {x : Str} (hN : X.N.Nodup) (hi : X.N[i]? = some x) (hx : Loc X.env.scope x) (hf : X.fn x = true ∨ X.env.scope.names.lookup x = some .local := by first | exact .inl rfl | exact .inr rfl | assumption) : PDG X c E [i] (.Name x pos) (gNm i) :=
  (pg_name hN hi hx hf).imp fun v σ H Q ⟨g0, H0, g, ρ, τ, d, q, ex, st, r, h, hx, kk⟩ => kk _ _ g H h g.le_refl (st.setF r) ⟨List.length_set .., fun j hj => List.getElem?_set_ne (fun e => hj (by rw [e]; exact List.mem_singleton.mpr rfl))⟩
def gN0 : DGs := fun ds ρ q _ => ds = [] ∧ q ρ
def gC0 (t : DG) (u : DGs) : DGs := fun ds ρ q ex => ∃ d r, ds = d :: r ∧ t d ρ (fun ρ1 => u r ρ1 q ex) ex
theorem pdgs_nil : PDGs X c E [] [] gN0 := pgs_nil.imp fun v σ H Q ⟨g0, H0, g, ρ, τ, d, q, ex, st, r, ⟨e, h⟩, hx, kk⟩ => by
  subst e
  cases r
  exact ⟨rfl, kk _ _ g H h g.le_refl st ⟨rfl, fun _ _ => rfl⟩⟩
theorem pdgs_cons {ws us : List Nat} {t : DG} {u : DGs} (h1 : PDG X c E ws a t) (h2 : PDGs X c E us es u) (hs : (assignEach (a :: es) X.env).map (·.2) = assign a X.env :: (assignEach es X.env).map (·.2) := by rfl) : PDGs X c E (ws ++ us) (a :: es) (gC0 t u) :=
  (pgs_cons h1 h2 hs).imp fun v σ H Q ⟨g0, H0, g, ρ, τ, ds, q, ex, st, r, ⟨d, dr, e, h⟩, hx, kk⟩ => by
    subst e
    cases r with | cons r rr =>
    refine ⟨_, _, rfl, g0, H0, g, ρ, τ, d, _, ex, st, r, h, hx, fun ρ1 σ1 g1 H1 h1 l1 st1 n1 => ?_⟩
    refine ⟨g0, H0, g1, ρ1, τ, dr, _, ex, st1, rr.mono l1, h1, hx, fun ρ2 σ2 g2 H2 h2 l2 st2 n2 => ?_⟩
    refine kk _ _ g2 H2 h2 (l1.trans l2) st2 ⟨n2.1.trans n1.1, fun j hj => ?_⟩
    rw [n2.2 j (fun z => hj (List.mem_append_right _ z)), n1.2 j (fun z => hj (List.mem_append_left _ z))]
def gTp (n : Nat) (u : DGs) : DG := fun d ρ q ex => ∃ ds, d = .tup ds ∧ ds.length = n ∧ u ds ρ q ex
theorem pdg_tup {ws : List Nat} {k n : Nat} {u : DGs} (hK : X.K = c.K) (hc : X.calm = true) (h : PDGs X c E ws es u) (hn : (assignEach es X.env).length = n := by rfl) (hst : (assignEach es X.env).findIdx? (·.1) = none := by rfl) : PDG X c E ws (.Tuple es k pos) (gTp n u) :=
  (pg_tup hc h hn hst).imp fun v σ H Q ⟨g0, H0, g, ρ, τ, d, q, ex, st, r, ⟨ds, e, hl, h⟩, hx, kk⟩ => by
    subst e
    cases r with | tup h1 r =>
    rw [hK]
    exact ⟨_, _, rfl, st.base.good.sqT h1, by rw [r.length]; exact hl, g0, H0, g, ρ, τ, ds, _, ex, st, r, h, hx, kk⟩
/-! ### for -/
def forW (tg : DG) (u : DS) (k : DK) (ex : XD) : List D → List Cell → Prop
  | [], ρ => k.nx ρ
  | x :: xs, ρ => tg x ρ (fun ρ1 => u ρ1 { nx := forW tg u k ex xs, ct := forW tg u k ex xs, bk := k.nx, rt := k.rt } ex) ex
def sFor (ti : DI) (tg : DG) (u : DS) : DS := fun ρ k ex => ti ρ (fun items ρ1 => forW tg u k ex items ρ1) ex
theorem ds_for {ws : List Nat} {body : List Stmt} {ti : DI} {t : DG} {u : DS} (hp : PassesOwn (model X.prog X.w) X.A X.env X.xe) (hc : X.calm = true) (hi : PDI X c E tg a ti) (hg : PDG X c E ws tg t) (hb : PDSs X c E body u)
    (hs : ∀ x, foldedSetIterable a X.env x = pure x := by intro _; rfl) : PDS X c E (.For tg a body [] pos) (sFor ti t u) := (ps_for hp hc hi hg hb hs).imp fun N σ H ⟨g0, H0, g, ρ, τ, k, ex, st, h, hx, n1, n2, n3, n4⟩ => by
  refine ⟨g0, H0, g, ρ, τ, _, ex, st, h, hx, fun items ρ1 J g1 H1 h1 l1 st1 it => ?_⟩
  refine ⟨fun i m σ H => ∃ g2 ρ2, g1.le g2 ∧ StD c g0 H0 g2 H ρ2 σ τ ∧ m = items.length - i ∧ i ≤ items.length ∧ forW t u k ex (items.drop i) ρ2, ⟨_, g1, ρ1, g1.le_refl, st1, rfl, Nat.zero_le _, h1⟩, ?_⟩
  rintro i m σ2 H2 ⟨g2, ρ2, l2, st2, rfl, hi, w⟩
  have io := it i g2 H2 l2 st2.base.good
  by_cases lt : i < items.length
  · obtain ⟨go, yl⟩ := io.1 items[i] (List.getElem?_eq_getElem lt)
    refine .inr ⟨go, fun σ' H' => ∃ g3 ρ3, g1.le g3 ∧ StD c g0 H0 g3 H' ρ3 σ' τ ∧ forW t u k ex (items.drop (i + 1)) ρ3, fun σ' H' ⟨g3, ρ3, l3, st3, w3⟩ => ⟨items.length - (i + 1), by omega, g3, ρ3, l3, st3, rfl, lt, w3⟩, fun x H3 y => ?_⟩
    obtain ⟨g3, b3, r3⟩ := yl x H3 y
    rw [List.drop_eq_getElem_cons lt] at w
    refine ⟨g0, H0, g3, ρ2, τ, _, _, ex, st2.step b3, r3, w, hx, fun ρ4 σ4 g4 H4 h4 l4 st4 _ => ?_⟩
    have L := (l2.trans b3.le).trans l4
    exact ⟨g0, H0, g4, ρ4, τ, _, ex, st4, h4, hx, fun ρ' σ' g' H' h l s => ⟨g', ρ', L.trans l, s, h⟩, fun d v ρ' σ' g' H' h l s r => n2 d v ρ' σ' g' H' h ((l1.trans L).trans l) s r, fun ρ' σ' g' H' h l s => n1 ρ' σ' g' H' h ((l1.trans L).trans l) s, fun ρ' σ' g' H' h l s => ⟨g', ρ', L.trans l, s, h⟩⟩
  · have e : i = items.length := by omega
    subst e
    rw [List.drop_eq_nil_of_le (Nat.le_refl _)] at w
    exact .inl ⟨io.2 (Nat.le_refl _), n1 ρ2 σ2 g2 H2 w (l1.trans l2) st2⟩
/-! ### comprehensions -/
abbrev no : XD := fun _ _ => False
theorem exc_no {g0 : Gh} {H0 : Hp} {E : XK} : ExcK c g0 H0 no E := fun _ _ _ _ _ _ h => h.elim
def dYes : DT := fun ρ q _ => q true ρ
abbrev PDTs (X : Cx) (c : Cfg) (E : XK) (ifs : List Expr) (t : DT) : Prop := PTs X ifs (liftT c E t)
theorem _root_.L2.PTs.imp {X : Cx} {e : List Expr} {t t' : TT} (h : PTs X e t) (i : ∀ σ H Q, t' σ H Q → t σ H Q) : PTs X e t' := ⟨fun pins s σ H Q I w => h.run pins s σ H Q I (i σ H Q w)⟩
theorem pdts_nil : PDTs X c E [] dYes := pts_nil.imp fun σ H Q ⟨g0, H0, g, ρ, τ, q, ex, st, h, hx, kk⟩ => kk true ρ g H h g.le_refl st
theorem pdts_one {t : DT} (h : PDT X c E a t) : PDTs X c E [a] t := pts_one h
def lcW (tg : DG) (tt : DT) (te : DW) (vs : List Nat) (k : List D → List Cell → Prop) : List D → List D → List Cell → Prop
  | [], acc, ρ => k acc ρ
  | x :: xs, acc, ρ => tg x ρ (fun ρ1 => tt ρ1 (fun b ρ2 => bIf b (te ρ2 (fun y ρ3 => acc.length < sizeLine ∧ lcW tg tt te vs k xs (acc ++ [y]) (wipeC ρ3 vs)) no) (lcW tg tt te vs k xs acc (wipeC ρ2 vs))) no) no
def cLc (ti : DI) (tg : DG) (tt : DT) (te : DW) (vs : List Nat) : DC := fun ρ q ex => ti ρ (fun items ρ1 => lcW tg tt te vs (fun acc ρ2 => q (.ow acc) (unwipe ρ1 ρ2 vs)) items [] (wipeC ρ1 vs)) ex
/-- the object pinned first is changed -/
theorem StD.pinUpd {g0 g : Gh} {H0 H : Hp} {ρ : List Cell} {σ : L2.St} {τ : List (Addr × HO)} {p : Addr} {o o' : HO} (st : StD c g0 H0 g H ρ σ ((p, o) :: τ)) (nt : plainO o' = true) : StD c g0 H0 g (upd H p o') ρ σ ((p, o') :: τ) := by
  obtain ⟨h1, w, t, n⟩ := st.pin (p, o) List.mem_cons_self
  have hn : ∀ q ∈ τ, q.1 ≠ p := fun q hq z => (List.nodup_cons.mp st.pnd).1 (List.mem_map.mpr ⟨q, hq, z⟩)
  have ex : ∀ b, b ≠ p → upd H p o' b = H b := fun b e => upd_ne e
  have np : ∀ {b u}, g.F b = some u → b ≠ p := fun {b u} e z => by rw [z, w.2.1] at e; cases e
  have b := st.base
  refine ⟨⟨b.le, fun a u h => by rw [ex a (np h)]; exact b.sub a u h, b.ntb, b.fr, fun r h => ?_, b.rwn, fun a h => ?_, fun a u h k t => ?_, ⟨fun q hq => ?_, fun P hP => ?_⟩⟩, st.len, fun i cl hi => ?_, st.ne, fun q hq => ?_, st.pnd⟩
  · obtain ⟨h1, sa, ns, i, j, k, h2, h3, h4⟩ := b.row r h
    exact ⟨h1, sa, ns, i, j, k, by rw [ex r (fun z => w.2.2 (by rw [← z]; exact h))]; exact h2, h3, h4⟩
  · by_cases e : a = p
    · rw [e, upd_same]; exact fun z => nomatch z
    · rw [ex a e]; exact b.there a h
  · have : a ≠ p := fun z => by rw [z, w.1] at h; cases h
    rw [ex a this]; exact b.keep a u h k t
  · obtain ⟨ps, a1, a2, a3⟩ := b.tab.1 q hq
    have ne1 : q.1 ≠ p := fun z => by rw [z, h1] at a1; exact (plainO_nt t).1 ps (Option.some.inj a1)
    refine ⟨ps, by rw [ex _ ne1]; exact a1, a2, fun pos cv hc => ?_⟩
    obtain ⟨c0, e1, e2⟩ := a3 pos cv hc
    refine ⟨c0, e1, ?_⟩
    by_cases e : c0 = p
    · rw [e, h1] at e2; exact absurd (Option.some.inj e2) ((plainO_nt t).2.2 _)
    · rw [ex _ e]; exact e2
  · obtain ⟨ps, a1, a2⟩ := b.tab.2 P hP
    have ne1 : P ≠ p := fun z => by rw [z, h1] at a1; exact (plainO_nt t).1 ps (Option.some.inj a1)
    exact ⟨ps, by rw [ex _ ne1]; exact a1, a2⟩
  · have z := st.ok i cl hi
    have na : ∀ b, cl.own = true → σ[i]? = some (some (.ref b)) → b ≠ p := fun b ho sj z => by
      subst z
      exact n i cl hi ho sj
    cases cl with
    | off => trivial
    | scr ns => exact z
    | fz x => exact z
    | ow ds => obtain ⟨b, xs, e, h1, r, w⟩ := z; exact ⟨b, xs, e, by rw [ex _ (na b rfl e)]; exact h1, r, w⟩
    | os S n => obtain ⟨b, e, h1, w⟩ := z; exact ⟨b, e, by rw [ex _ (na b rfl e)]; exact h1, w⟩
    | od ds => obtain ⟨b, kvs, e, h1, k, r, w⟩ := z; exact ⟨b, kvs, e, by rw [ex _ (na b rfl e)]; exact h1, k, r, w⟩
    | ot ds => obtain ⟨b, kvs, e, h1, k, r, w⟩ := z; exact ⟨b, kvs, e, by rw [ex _ (na b rfl e)]; exact h1, k, r, w⟩
    | ob b C ds =>
      obtain ⟨dx, fs, e, k1, k2, k, r, w, w2⟩ := z
      refine ⟨dx, fs, e, by rw [ex _ (na b rfl e)]; exact k1, ?_, k, r, w, w2⟩
      rw [ex dx (fun z => by rw [z, h1] at k2; exact (plainO_nt t).2.1 _ (Option.some.inj k2))]
      exact k2
  · rcases List.mem_cons.mp hq with e | hq
    · subst e; exact ⟨upd_same, w, nt, n⟩
    · obtain ⟨q1, q2, q3, q4⟩ := st.pin q (List.mem_cons_of_mem _ hq)
      exact ⟨by rw [ex _ (hn q hq)]; exact q1, q2, q3, q4⟩
theorem lift_lc {ti : DI} {t : DG} {tt : DT} {te : DW} {ws vs : List Nat} (hv : ∀ i ∈ ws, i ∈ vs) {σ : L2.St} {H : Hp} {Q : VK} (h : liftC c E (cLc ti t tt te vs) σ H Q) : tLc (liftI c E ti) (liftG c xno ws t) (liftT c xno tt) (liftE c xno te) vs σ H Q := by
  obtain ⟨g0, H0, g, ρ, τ, q, ex, st, h, hx, kk⟩ := h
  refine ⟨g0, H0, g, ρ, τ, _, ex, st, h, hx, fun items ρ1 J g1 H1 h1 l1 st1 it D hD => ?_⟩
  refine ⟨fun i m H => ∃ g2 ρ2 acc xs, g1.le g2 ∧ StD c g0 H0 g2 H ρ2 (L2.wipe σ vs) ((D, .lst xs) :: τ) ∧ Reps c.K g2 xs acc ∧ m = items.length - i ∧ i ≤ items.length ∧ lcW t tt te vs (fun acc ρ2 => q (.ow acc) (unwipe ρ1 ρ2 vs)) (items.drop i) acc ρ2,
    ⟨_, g1, _, [], [], g1.le_refl, (st1.wipe vs).new hD rfl, .nil, rfl, Nat.zero_le _, h1⟩, ?_⟩
  rintro i m H2 ⟨g2, ρ2, acc, xs, l2, st2, ra, rfl, hi, w⟩
  have io := it i g2 H2 l2 st2.base.good
  by_cases lt : i < items.length
  · obtain ⟨go, yl⟩ := io.1 items[i] (List.getElem?_eq_getElem lt)
    refine .inr ⟨go, fun H' => ∃ g2 ρ2 acc xs, g1.le g2 ∧ StD c g0 H0 g2 H' ρ2 (L2.wipe σ vs) ((D, .lst xs) :: τ) ∧ Reps c.K g2 xs acc ∧ lcW t tt te vs (fun acc ρ2 => q (.ow acc) (unwipe ρ1 ρ2 vs)) (items.drop (i + 1)) acc ρ2,
      fun H' ⟨g3, ρ3, acc, xs, l3, st3, r3, w3⟩ => ⟨items.length - (i + 1), by omega, g3, ρ3, acc, xs, l3, st3, r3, rfl, lt, w3⟩, fun x H3 y => ?_⟩
    obtain ⟨g3, b3, r3⟩ := yl x H3 y
    rw [List.drop_eq_getElem_cons lt] at w
    refine ⟨g0, H0, g3, ρ2, (D, .lst xs) :: τ, _, _, no, st2.step b3, r3, w, exc_no, fun ρ3 σ3 g4 H4 h4 l4 st4 n4 => ?_⟩
    have we : L2.wipe σ3 vs = L2.wipe σ vs := by
      rw [wipe_eq (σ := L2.wipe σ vs) (vs := vs) n4.1 n4.2 hv, wipe_wipe]
    refine ⟨we, g0, H0, g4, ρ3, (D, .lst xs) :: τ, _, no, st4, h4, exc_no, fun b ρ4 g5 H5 h5 l5 st5 => ?_⟩
    cases b with
    | false =>
      refine ⟨g5, _, acc, xs, ((l2.trans b3.le).trans l4).trans l5, ?_, ra.mono ((b3.le.trans l4).trans l5), h5⟩
      rw [← we]
      exact st5.wipe vs
    | true =>
      refine ⟨g0, H0, g5, ρ4, (D, .lst xs) :: τ, _, no, st5, h5, exc_no, fun y ρ5 v g6 H6 h6 l6 st6 r6 => ?_⟩
      have ra6 := ra.mono (((b3.le.trans l4).trans l5).trans l6)
      refine ⟨xs, (st6.pin _ List.mem_cons_self).1, by rw [ra6.length]; exact h6.1, ?_⟩
      refine ⟨g6, _, acc ++ [y], xs ++ [v], (((l2.trans b3.le).trans l4).trans l5).trans l6, ?_, ra6.append (.cons r6 .nil), h6.2⟩
      rw [← we]
      exact (st6.wipe vs).pinUpd rfl
  · have e : i = items.length := by omega
    subst e
    rw [List.drop_eq_nil_of_le (Nat.le_refl _)] at w
    exact .inl ⟨io.2 (Nat.le_refl _), kk (.ow acc) _ _ g2 H2 [(D, .lst xs)] w (l1.trans l2) (st1.unwipe l2 st2) (.own ra)⟩
/-- [elt for tg in iter if ..] -/
theorem pc_lc {elt tg iter : Expr} {ifs : List Expr} {scope : Scope} {own : List (Str × Nat)} {ti : DI} {t : DG} {tt : DT} {te : DW} {ws : List Nat} (hc : X.calm = true) (hN : X.N.Nodup) (hi : PDI X c E tg iter ti) (ok : BlkOk X.N X.env.scope scope own)
    (hg : ∀ (s : Shared) (H : Hp) (C : Addr) (cl : List (Str × Addr)) (fp : List Addr), PDG (X.blk s H scope (compEnvC scope cl C X.env) fp) c xno ws tg t)
    (ht : ∀ (s : Shared) (H : Hp) (C : Addr) (cl : List (Str × Addr)) (fp : List Addr), PDTs (X.blk s H scope (compEnvC scope cl C X.env) fp) c xno ifs tt)
    (he : ∀ (s : Shared) (H : Hp) (C : Addr) (cl : List (Str × Addr)) (fp : List Addr), PD (X.blk s H scope (compEnvC scope cl C X.env) fp) c xno elt te)
    (hv : ∀ i ∈ ws, i ∈ own.map (·.2)) (hs : ∀ x, foldedSetIterable iter X.env x = pure x := by intro _; rfl) :
    PC X c E (.ListComp elt [⟨tg, iter, ifs, 0⟩] scope pos) (cLc ti t tt te (own.map (·.2))) := (pe_lc hc hN hi ok hg ht he hs).imp fun _ _ _ h => lift_lc hv h
theorem ds_setLc {i : Nat} {y : Str} {py spos : Pos} {elt tg iter : Expr} {ifs : List Expr} {scope : Scope} {own : List (Str × Nat)} {ti : DI} {t : DG} {tt : DT} {te : DW} {ws : List Nat} (hc : X.calm = true) (hN : X.N.Nodup) (hy : X.N[i]? = some y) (hyl : X.env.scope.names.lookup y = some .local)
    (hsw : swapsWith (.ListComp elt [⟨tg, iter, ifs, 0⟩] scope pos) (some (.Name y py)) spos.line X.env = pure true) (hi : PDI X c E tg iter ti) (ok : BlkOk X.N X.env.scope scope own)
    (hg : ∀ (s : Shared) (H : Hp) (C : Addr) (cl : List (Str × Addr)) (fp : List Addr), PDG (X.blk s H scope (compEnvC scope cl C X.env) fp) c xno ws tg t)
    (ht : ∀ (s : Shared) (H : Hp) (C : Addr) (cl : List (Str × Addr)) (fp : List Addr), PDTs (X.blk s H scope (compEnvC scope cl C X.env) fp) c xno ifs tt)
    (he : ∀ (s : Shared) (H : Hp) (C : Addr) (cl : List (Str × Addr)) (fp : List Addr), PD (X.blk s H scope (compEnvC scope cl C X.env) fp) c xno elt te)
    (hv : ∀ i ∈ ws, i ∈ own.map (·.2)) (hs : ∀ x, foldedSetIterable iter X.env x = pure x := by intro _; rfl) :
    PDS X c E (.Assign [.Name y py] (.ListComp elt [⟨tg, iter, ifs, 0⟩] scope pos) spos) (sSet i (cLc ti t tt te (own.map (·.2)))) :=
  (ps_setLc hc hN hy hyl hsw hi ok hg ht he hs).imp fun N σ H ⟨g0, H0, g, ρ, τ, k, ex, st, h, hx, n1, n2, n3, n4⟩ => by
    refine lift_lc hv ⟨g0, H0, g, ρ, τ, _, ex, st, h, hx, fun cl ρ' v g' H' τ' h2 l s r => ?_⟩
    cases r with
    | fz r => exact n1 _ _ g' H' h2 l (s.setF r)
    | own r => exact n1 _ _ g' H' h2 l (s.setO r)
end
end D7
namespace D7
open PySem PySem.Spec PyProof.Rows L2
section
variable {X : Cx} {c : Cfg} {E : XK} {a b : Expr} {es : List Expr} {pos : Pos} {ta tb : DW} {ha hb : DH}
/-! ### x in xs -/
/-- plain data: whether d is among them -/
def inD (d : D) (ds : List D) : Bool := ds.any fun z => eqD z d
def rInAny (K : PySem.W.Frag) : R2 := fun x y H Q => ∃ d ds e, Dp K H x d ∧ Dp K H y e ∧ (e = .list ds ∨ e = .tuple ds) ∧ SeqAt.shaped d = true ∧ SeqAt.shaped (.list ds) = true ∧ Q (.bl (ds.any fun z => PyData.eqv z d)) H
def rNotInAny (K : PySem.W.Frag) : R2 := fun x y H Q => ∃ d ds e, Dp K H x d ∧ Dp K H y e ∧ (e = .list ds ∨ e = .tuple ds) ∧ SeqAt.shaped d = true ∧ SeqAt.shaped (.list ds) = true ∧ Q (.bl (!ds.any fun z => PyData.eqv z d)) H
theorem depthAll_le {ds : List PyData} (h : SeqAt.shaped (.list ds) = true) : PyData.canLayAll0 ds = true ∧ PyData.depthAll ds ≤ 64 := by
  have h1 := SeqAt.canLay_of_shaped h
  have h2 := SeqAt.depth_of_shaped h
  simp only [PyData.canLay0, PyData.depth] at h1 h2
  exact ⟨h1, by omega⟩
theorem op_inAny (hu : X.A.units + 65 < cLine) : OpR X (compareOp .In) (rInAny X.K) := by
  intro pins s σ H x y v u Q I rx ry h
  obtain ⟨d, ds, e, hd, he, ee, sd, ss, q⟩ := h
  obtain ⟨as, r1⟩ := Dp.reads I d x v hd rx
  obtain ⟨bs, r2⟩ := Dp.reads I e y u he ry
  have h1 := depthAll_le ss
  have h2 := SeqAt.depth_of_shaped sd
  rcases ee with rfl | rfl
  · exact op_inD hu pins s σ H x y v u Q I rx ry ⟨d, ds, hd, he, sd, ss, q⟩
  · exact SeqAt.in_tuple_reads r2 r1 h1.1 (SeqAt.canLay_of_shaped sd) (by have := Nat.min_le_right (PyData.depthAll ds) d.depth; omega) ⟨.bl _, H, I, rfl, q⟩
theorem op_notInAny (hu : X.A.units + 65 < cLine) : OpR X (compareOp .NotIn) (rNotInAny X.K) := by
  intro pins s σ H x y v u Q I rx ry h
  obtain ⟨d, ds, e, hd, he, ee, sd, ss, q⟩ := h
  obtain ⟨as, r1⟩ := Dp.reads I d x v hd rx
  obtain ⟨bs, r2⟩ := Dp.reads I e y u he ry
  have h1 := depthAll_le ss
  have h2 := SeqAt.depth_of_shaped sd
  rcases ee with rfl | rfl
  · exact op_notInD hu pins s σ H x y v u Q I rx ry ⟨d, ds, hd, he, sd, ss, q⟩
  · exact SeqAt.notIn_tuple_reads r2 r1 h1.1 (SeqAt.canLay_of_shaped sd) (by have := Nat.min_le_right (PyData.depthAll ds) d.depth; omega) ⟨.bl _, H, I, rfl, q⟩
theorem any_toP : ∀ {n m : Nat} (d : D) (ds : List D), okD n d = true → okDs m ds = true → ((toPs ds).any fun z => PyData.eqv z (toP d)) = inD d ds
  | _, _, _, [], _, _ => rfl
  | n, m, d, e :: ds, h, k => by
    have k : okD m e = true ∧ okDs m ds = true := by simpa [okDs] using k
    simp only [toPs, inD, List.any_cons]
    rw [eqD_eqv m n e d k.1 h, any_toP d ds h k.2]
    rfl
/-- x in xs: ints in lists, tuples, sets; data in lists, tuples -/
def kIn (neg : Bool) : D → D → (D → Prop) → Prop := fun d e p => match e with
  | .lst ds => okD 50 d = true ∧ okDs 50 ds = true ∧ p (.bl (xor neg (inD d ds)))
  | .tup ds => okD 50 d = true ∧ okDs 50 ds = true ∧ p (.bl (xor neg (inD d ds)))
  | _ => False
theorem shaped_lst {ds : List D} (h : okDs 50 ds = true) : SeqAt.shaped (.list (toPs ds)) = true := by
  have := okD_shaped (n := 51) (d := .lst ds) (by simpa [okD] using h) (by decide)
  simpa only [toP] using this
theorem opd_in : OpD c (rInAny c.K) (kIn false) := by
  intro g H x y d e p Q b rx ry h n
  cases e <;> first | exact h.elim | skip
  · rename_i ds
    obtain ⟨h1, h2, h3⟩ := h
    refine ⟨toP d, toPs ds, _, rx.dp b h1, ry.dp b (n := 51) (by simpa [okD] using h2), .inl (by simp only [toP]), okD_shaped h1 (by decide), shaped_lst h2, ?_⟩
    rw [any_toP d ds h1 h2]
    exact n.same b (by simpa using h3) (.bl _)
  · rename_i ds
    obtain ⟨h1, h2, h3⟩ := h
    refine ⟨toP d, toPs ds, _, rx.dp b h1, ry.dp b (n := 51) (by simpa [okD] using h2), .inr (by simp only [toP]), okD_shaped h1 (by decide), shaped_lst h2, ?_⟩
    rw [any_toP d ds h1 h2]
    exact n.same b (by simpa using h3) (.bl _)
theorem opd_notIn : OpD c (rNotInAny c.K) (kIn true) := by
  intro g H x y d e p Q b rx ry h n
  cases e <;> first | exact h.elim | skip
  · rename_i ds
    obtain ⟨h1, h2, h3⟩ := h
    refine ⟨toP d, toPs ds, _, rx.dp b h1, ry.dp b (n := 51) (by simpa [okD] using h2), .inl (by simp only [toP]), okD_shaped h1 (by decide), shaped_lst h2, ?_⟩
    rw [any_toP d ds h1 h2]
    exact n.same b (by simpa using h3) (.bl _)
  · rename_i ds
    obtain ⟨h1, h2, h3⟩ := h
    refine ⟨toP d, toPs ds, _, rx.dp b h1, ry.dp b (n := 51) (by simpa [okD] using h2), .inr (by simp only [toP]), okD_shaped h1 (by decide), shaped_lst h2, ?_⟩
    rw [any_toP d ds h1 h2]
    exact n.same b (by simpa using h3) (.bl _)
/-! ### slices -/
abbrev DO := List Cell → (Option Int → List Cell → Prop) → XD → Prop
def liftO (c : Cfg) (E : XK) (td : DO) : TO := fun σ H Q => ∃ g0 H0 g ρ τ q ex, StD c g0 H0 g H ρ σ τ ∧ td ρ q ex ∧ ExcK c g0 H0 ex E ∧
  ∀ o ρ' g' H', q o ρ' → g.le g' → StD c g0 H0 g' H' ρ' σ τ → Q o H'
theorem _root_.L2.PO.imp {X : Cx} {e : Option Expr} {t t' : TO} (h : PO X e t) (i : ∀ σ H Q, t' σ H Q → t σ H Q) : PO X e t' := ⟨fun pins s σ H Q I w => h.run pins s σ H Q I (i σ H Q w)⟩
abbrev PDO (X : Cx) (c : Cfg) (E : XK) (e : Option Expr) (td : DO) : Prop := PO X e (liftO c E td)
def oNone : DO := fun ρ q _ => q none ρ
def oSome (t : DW) : DO := fun ρ q ex => t ρ (fun d ρ' => ∃ i, d = .int i ∧ q (some i) ρ') ex
theorem pdo_none : PDO X c E none oNone := po_none.imp fun σ H Q ⟨g0, H0, g, ρ, τ, q, ex, st, h, hx, kk⟩ => kk none ρ g H h g.le_refl st
theorem pdo_some (h : PD X c E a ta) : PDO X c E (some a) (oSome ta) := (po_some h).imp fun σ H Q ⟨g0, H0, g, ρ, τ, q, ex, st, h, hx, kk⟩ => by
  refine ⟨g0, H0, g, ρ, τ, _, ex, st, h, hx, fun d ρ' v g' H' h2 l s r => ?_⟩
  obtain ⟨i, e, h3⟩ := h2
  subst e
  cases r
  exact ⟨i, rfl, kk _ ρ' g' H' h3 l s⟩
def cutD (xs : List D) (lo hi : Option Int) : List D := (xs.drop (HT.sIx xs.length 0 lo)).take (HT.sIx xs.length xs.length hi - HT.sIx xs.length 0 lo)
def kCut (d : D) (lo hi : Option Int) (p : D → Prop) : Prop := match d with
  | .lst ds => p (.lst (cutD ds lo hi))
  | .tup ds => p (.tup (cutD ds lo hi))
  | _ => False
def dCut (ha : DH) (l u : DO) : DW := fun ρ q ex => ha ρ (fun x ρ1 => l ρ1 (fun lo ρ2 => u ρ2 (fun hi ρ3 => ∃ d, res ρ3 x = some d ∧ kCut d lo hi fun z => q z ρ3) ex) ex) ex
theorem Reps.cut {K : PySem.W.Frag} {g : Gh} {xs : List V} {ds : List D} (r : Reps K g xs ds) (lo hi : Option Int) : Reps K g (cutV xs lo hi) (cutD ds lo hi) := by
  unfold cutV cutD
  rw [r.length]
  exact (r.drop _).take _
theorem cutD_all {ds : List D} {lo hi : Option Int} (h : HT.sIx ds.length 0 lo = 0 ∧ HT.sIx ds.length ds.length hi = ds.length) : cutD ds lo hi = ds := by
  unfold cutD
  rw [h.1, h.2]
  simp
theorem pd_cut {lo hi : Option Expr} {l u : DO} {p2 : Pos} (hK : X.K = c.K) (h1 : PH X c E a ha) (h2 : PDO X c E lo l) (h3 : PDO X c E hi u) : PD X c E (.Subscript a (.Slice lo hi none p2) pos) (dCut ha l u) :=
  (pe_slice (sl_list.or sl_tupA) h1 h2 h3).imp fun σ H Q ⟨g0, H0, g, ρ, τ, q, ex, st, h, hx, kk⟩ => by
    refine ⟨g0, H0, g, ρ, τ, _, ex, st, h, hx, fun x ρ1 v g1 H1 h1 l1 st1 r1 => ⟨g0, H0, g1, ρ1, τ, _, ex, st1, h1, hx, fun o ρ2 g2 H2 h2 l2 st2 => ⟨g0, H0, g2, ρ2, τ, _, ex, st2, h2, hx, fun o3 ρ3 g3 H3 h3 l3 st3 => ?_⟩⟩⟩
    obtain ⟨d, e1, h4⟩ := h3
    have sh := ((r1.mono l2).mono l3).sh st3 e1
    have b := st3.base.good
    have L := (l1.trans l2).trans l3
    cases d <;> first | exact h4.elim | skip
    · obtain ⟨a, xs, e, hx, rs⟩ := sh.lst' b
      refine .inl ⟨a, xs, e, .inl (.inl hx), fun p hp => ?_⟩
      have bb := b.alloc (o := .lst (cutV xs o o3)) hp (fun _ => nofun)
      exact kk _ ρ3 _ _ _ h4 (L.trans bb.le) (st3.step bb) (rep_lst b hp (rs.cut o o3))
    · obtain ⟨a, xs, e, hx, rs⟩ := sh.tup
      refine .inr ⟨a, xs, e, by rw [hK]; exact b.sqT hx, fun hw => ?_, fun hw p hp => ?_⟩
      · rw [rs.length] at hw
        have h4 : q (.tup (cutD _ o o3)) ρ3 := h4
        rw [cutD_all hw] at h4
        exact kk _ ρ3 _ g3 H3 h4 L st3 (e ▸ .tup hx rs)
      · have bb := b.alloc (o := .tup (cutV xs o o3)) hp (fun _ => nofun)
        exact kk _ ρ3 _ _ _ h4 (L.trans bb.le) (st3.step bb) (rep_tup b hp (rs.cut o o3))
/-! ### built-in functions -/
def dCb (k : List D → (D → Prop) → Prop) (t : DHs) : DW := fun ρ q ex => t ρ (fun xs ρ1 => ∃ ds, ress ρ1 xs = some ds ∧ k ds fun z => q z ρ1) ex
def cCb (k : List D → (List D → Prop) → Prop) (t : DHs) : DC := fun ρ q ex => t ρ (fun xs ρ1 => ∃ ds, ress ρ1 xs = some ds ∧ k ds fun zs => q (.ow zs) ρ1) ex
theorem lift_cb {r : List V → Hp → VK → Prop} {k : List D → (D → Prop) → Prop} {t : DHs} (hk : CallD c r k) {σ : L2.St} {H : Hp} {Q : VK} (h : liftE c E (dCb k t) σ H Q) : tCB r (liftHs c E t) σ H Q := by
  obtain ⟨g0, H0, g, ρ, τ, q, ex, st, h, hx, kk⟩ := h
  refine ⟨g0, H0, g, ρ, τ, _, ex, st, h, hx, fun xs ρ1 vs g1 H1 h1 l1 st1 r1 => ?_⟩
  obtain ⟨ds, e, h3⟩ := h1
  exact hk g1 H1 vs ds _ _ st1.base.good (r1.shs st1 e) h3 fun z w g3 H3 p3 b3 r3 => kk z ρ1 w g3 H3 p3 (l1.trans b3.le) (st1.step b3) r3
theorem lift_cbL {r : List V → Hp → VK → Prop} {k : List D → (List D → Prop) → Prop} {t : DHs} (hk : CallL c r k) {σ : L2.St} {H : Hp} {Q : VK} (h : liftC c E (cCb k t) σ H Q) : tCB r (liftHs c E t) σ H Q := by
  obtain ⟨g0, H0, g, ρ, τ, q, ex, st, h, hx, kk⟩ := h
  refine ⟨g0, H0, g, ρ, τ, _, ex, st, h, hx, fun xs ρ1 vs g1 H1 h1 l1 st1 r1 => ?_⟩
  obtain ⟨ds, e, h3⟩ := h1
  exact hk g1 H1 vs ds _ _ st1.base.good (r1.shs st1 e) h3 fun zs ws p hp hr hn => kk _ ρ1 _ g1 _ [(p, .lst ws)] hp l1 (st1.new hn rfl) (.own hr)
variable {x : Str} {id T : String} {t : DHs} {p : Pos} {r : List V → Hp → VK → Prop}
theorem pd_cb {k : List D → (D → Prop) → Prop} (hc : CallR X (.builtin id) r) (hk : CallD c r k) (hg : Gl X x) (hm : X.mg x = none) (hv : bootBuiltins x = some (.builtin id)) (ha : PHs X c E (a :: es) t) (hn : x ≠ "__name__" := by decide) (hdb : (x == ("__debug__" : Str)) = false := by decide)
    (he : starEach (a :: es) X.env = (false, eval a X.env) :: starEach es X.env := by rfl) (hpl : (backTo pos (starEach es X.env)).any (·.1) = false := by rfl) : PD X c E (.Call (.Name x p) (a :: es) [] pos) (dCb k t) := (pe_callB hc hg hm hv ha hn hdb he hpl).imp fun _ _ _ h => lift_cb hk h
theorem pd_cty {k : List D → (D → Prop) → Prop} (hc : CallR X (.type T) r) (hk : CallD c r k) (hg : Gl X x) (hm : X.mg x = none) (hv : bootBuiltins x = some (.type T)) (ha : PHs X c E (a :: es) t) (hn : x ≠ "__name__" := by decide) (hdb : (x == ("__debug__" : Str)) = false := by decide)
    (he : starEach (a :: es) X.env = (false, eval a X.env) :: starEach es X.env := by rfl) (hpl : (backTo pos (starEach es X.env)).any (·.1) = false := by rfl) : PD X c E (.Call (.Name x p) (a :: es) [] pos) (dCb k t) := (pe_callTy hc hg hm hv ha hn hdb he hpl).imp fun _ _ _ h => lift_cb hk h
theorem pc_cb {k : List D → (List D → Prop) → Prop} (hc : CallR X (.builtin id) r) (hk : CallL c r k) (hg : Gl X x) (hm : X.mg x = none) (hv : bootBuiltins x = some (.builtin id)) (ha : PHs X c E (a :: es) t) (hn : x ≠ "__name__" := by decide) (hdb : (x == ("__debug__" : Str)) = false := by decide)
    (he : starEach (a :: es) X.env = (false, eval a X.env) :: starEach es X.env := by rfl) (hpl : (backTo pos (starEach es X.env)).any (·.1) = false := by rfl) : PC X c E (.Call (.Name x p) (a :: es) [] pos) (cCb k t) := (pe_callB hc hg hm hv ha hn hdb he hpl).imp fun _ _ _ h => lift_cbL hk h
theorem pc_cty {k : List D → (List D → Prop) → Prop} (hc : CallR X (.type T) r) (hk : CallL c r k) (hg : Gl X x) (hm : X.mg x = none) (hv : bootBuiltins x = some (.type T)) (ha : PHs X c E (a :: es) t) (hn : x ≠ "__name__" := by decide) (hdb : (x == ("__debug__" : Str)) = false := by decide)
    (he : starEach (a :: es) X.env = (false, eval a X.env) :: starEach es X.env := by rfl) (hpl : (backTo pos (starEach es X.env)).any (·.1) = false := by rfl) : PC X c E (.Call (.Name x p) (a :: es) [] pos) (cCb k t) := (pe_callTy hc hg hm hv ha hn hdb he hpl).imp fun _ _ _ h => lift_cbL hk h
/-- len -/
def kLen : List D → (D → Prop) → Prop := fun ds p => match ds with
  | [.lst xs] => xs.length ≤ sizeLine → p (.int xs.length)
  | [.tup xs] => xs.length ≤ sizeLine → p (.int xs.length)
  | [.scr xs] => xs.length ≤ sizeLine → p (.int xs.length)
  | _ => False
def rLenD (K : PySem.W.Frag) : List V → Hp → VK → Prop := fun xs H Q => ∃ p ys, xs = [.ref p] ∧ (SqL K H p ys ∨ SqT K H p ys) ∧ (ys.length ≤ sizeLine → Q (.int ys.length) H)
theorem cd_len : CallD c (rLenD c.K) kLen := by
  intro g H xs ds p Q b r h n
  cases r with
  | nil => exact h.elim
  | @cons v vs d ds r rr =>
  cases rr with
  | cons _ _ => cases d <;> exact h.elim
  | nil =>
  cases d <;> first | exact h.elim | skip
  · obtain ⟨a, ys, e, hx, rs⟩ := r.lst' b
    subst e
    refine ⟨a, ys, rfl, .inl (.inl (.inl hx)), ?_⟩
    rw [rs.length]
    exact fun hz => n.same b (h hz) (.int _)
  · obtain ⟨a, ys, e, hx, rs⟩ := r.tup
    subst e
    refine ⟨a, ys, rfl, .inr (b.sqT hx), ?_⟩
    rw [rs.length]
    exact fun hz => n.same b (h hz) (.int _)
  · cases r with | rep r =>
    cases r with | scr hx =>
    refine ⟨_, _, rfl, .inl (sqL_mono (b.sub _) hx), ?_⟩
    rw [List.length_map]
    exact fun hz => n.same b (h hz) (.int _)
/-- list(x), of a list or a tuple -/
def kList : List D → (List D → Prop) → Prop := fun ds p => match ds with
  | [.lst xs] => p xs
  | [.tup xs] => p xs
  | _ => False
def rListD (K : PySem.W.Frag) : List V → Hp → VK → Prop := fun xs H Q => ∃ p ys, xs = [.ref p] ∧ (SqL K H p ys ∨ SqT K H p ys) ∧ ∀ l, H l = none → Q (.ref l) (upd H l (.lst ys))
theorem cl_list : CallL c (rListD c.K) kList := by
  intro g H xs ds p Q b r h n
  cases r with
  | nil => exact h.elim
  | @cons v vs d ds r rr =>
  cases rr with
  | cons _ _ => cases d <;> exact h.elim
  | nil =>
  cases d <;> first | exact h.elim | skip
  · obtain ⟨a, ys, e, hx, rs⟩ := r.lst' b
    subst e
    exact ⟨a, ys, rfl, .inl (.inl (.inl hx)), fun l hl => n _ _ l h rs hl⟩
  · obtain ⟨a, ys, e, hx, rs⟩ := r.tup
    subst e
    exact ⟨a, ys, rfl, .inr (b.sqT hx), fun l hl => n _ _ l h rs hl⟩
/-- tuple(x) -/
def kTuple : List D → (D → Prop) → Prop := fun ds p => match ds with
  | [.lst xs] => p (.tup xs)
  | [.tup xs] => p (.tup xs)
  | _ => False
def rTupleD (K : PySem.W.Frag) : List V → Hp → VK → Prop := fun xs H Q => ∃ p ys, xs = [.ref p] ∧ ((SqL K H p ys ∧ ∀ l, H l = none → Q (.ref l) (upd H l (.tup ys))) ∨ (SqT K H p ys ∧ Q (.ref p) H))
theorem cd_tuple : CallD c (rTupleD c.K) kTuple := by
  intro g H xs ds p Q b r h n
  cases r with
  | nil => exact h.elim
  | @cons v vs d ds r rr =>
  cases rr with
  | cons _ _ => cases d <;> exact h.elim
  | nil =>
  cases d <;> first | exact h.elim | skip
  · obtain ⟨a, ys, e, hx, rs⟩ := r.lst' b
    subst e
    exact ⟨a, ys, rfl, .inl ⟨.inl (.inl hx), fun l hl => n.tup b h rs l hl⟩⟩
  · obtain ⟨a, ys, e, hx, rs⟩ := r.tup
    subst e
    exact ⟨a, ys, rfl, .inr ⟨b.sqT hx, n.same b h (.tup hx rs)⟩⟩
/-- int(x) of an int, a bool -/
def kInt : List D → (D → Prop) → Prop := fun ds p => match ds with
  | [.int i] => p (.int i)
  | [.bl k] => p (.int (if k then 1 else 0))
  | _ => False
def rInt1 : List V → Hp → VK → Prop := fun xs H Q => (∃ i, xs = [.int i] ∧ Q (.int i) H) ∨ ∃ k, xs = [.bl k] ∧ Q (.int (if k then 1 else 0)) H
theorem cd_int : CallD c rInt1 kInt := by
  intro g H xs ds p Q b r h n
  cases r with
  | nil => exact h.elim
  | @cons v vs d ds r rr =>
  cases rr with
  | cons _ _ => cases d <;> exact h.elim
  | nil =>
  cases d <;> first | exact h.elim | skip
  · exact .inr ⟨_, by rw [r.bl], n.same b h (.int _)⟩
  · exact .inl ⟨_, by rw [r.int], n.same b h (.int _)⟩
end
end D7
namespace D7
open PySem PySem.Spec PyProof.Rows L2
/-! ### promises in data -/
abbrev DSp := List D → (D → Prop) → XD → Prop
def spOf (c : Cfg) (ds : DSp) : Sp := fun vs H Q E => ∃ g args q ex, Good c g H ∧ Reps c.K g vs args ∧ ds args q ex ∧ ExcK c g H ex E ∧ ∀ d v g' H', q d → Base c g H g' H' → Rep c.K g' v d → Q v H'
def startC (n : Nat) (args : List D) : List Cell := args.map Cell.fz ++ List.replicate (n - args.length) .off
theorem StD.start {c : Cfg} {g : Gh} {H : Hp} {N : List Str} {vs : List V} {args : List D} (b : Good c g H) (r : Reps c.K g vs args) : StD c g H g H (startC N.length args) (L2.start N vs) [] := by
  have hl := r.length
  refine ⟨b, ?_, fun i cl hi => ?_, fun i j ci cj a hij hi hj oi oj => ?_, fun p hp => (by cases hp), List.nodup_nil⟩
  · unfold startC L2.start
    simp only [List.length_append, List.length_map, List.length_replicate]
    omega
  · by_cases lt : i < args.length
    · have e1 : (startC N.length args)[i]? = (args[i]?).map Cell.fz := by
        unfold startC
        rw [List.getElem?_append_left (by simpa using lt), List.getElem?_map]
      have e2 : (L2.start N vs)[i]? = (vs[i]?).map some := by
        unfold L2.start
        rw [List.getElem?_append_left (by simp; omega), List.getElem?_map]
      rw [e1, List.getElem?_eq_getElem lt] at hi
      cases hi
      obtain ⟨v, h1, h2⟩ := r.get (List.getElem?_eq_getElem lt)
      rw [e2, h1]
      exact ⟨v, rfl, h2⟩
    · have : cl = .off := by
        unfold startC at hi
        rw [List.getElem?_append_right (by simp; omega)] at hi
        exact (List.mem_replicate.mp (List.mem_of_getElem? hi)).2
      subst this
      trivial
  · have : ∀ {i : Nat} {cl : Cell}, (startC N.length args)[i]? = some cl → cl.own = false := fun {i cl} h => by
      have hm := List.mem_of_getElem? h
      unfold startC at hm
      rcases List.mem_append.mp hm with m | m
      · obtain ⟨d, _, e⟩ := List.mem_map.mp m
        subst e; rfl
      · rw [(List.mem_replicate.mp m).2]; rfl
    rw [this hi] at oi
    cases oi
/-- THE RULE of a def: F as it stands, its body's reading, its plain law -/
theorem fn_D {P : Program} {w : World} {c : Cfg} {mg : Str → Option Value} {base : Heap} {x qual : Str} {params : Arguments} {body : List Stmt} {scope : Scope} {dvs : List V} {kws : List (Str × V)} {f : Addr} {fd : FuncData} {N ps : List Str} {k : Nat} {ds : DSp} {ts : DS}
    (F : FunD c.K x qual params body scope dvs kws f fd) (S : FnScope N ps scope) (len : ∀ args q ex, ds args q ex → args.length = ps.length)
    (hbody : ∀ (A : Around) (outer : List Env) (s : Shared) (H : Hp) (E : XK), Room k (A.deeper (envOfC qual scope s.heap.objs.size f fd.code)) → PDSs (cxOf (L2.CX P w) P w c.K mg base N qual scope f fd.code A outer s H E) c E body ts)
    (law : ∀ args q ex, ds args q ex → ts (startC N.length args) { nx := fun _ => q .non, rt := fun d _ => q d } ex) : FnOk P w c.K mg base (L2.CX P w) (k + 1) f fd ps (spOf c ds) := by
  obtain ⟨oc, od, dV, kV, doc, pm, an, cdv, ct, osl, rfl, lk, hcd, _, _⟩ := F.ex
  refine fn_of lk hcd S (fun vs H Q E h => ?_) fun A outer s H vs Q E hr h => ?_
  · obtain ⟨g, args, q, ex, b, r, h, _⟩ := h
    rw [r.length]
    exact len _ _ _ h
  · obtain ⟨g, args, q, ex, b, r, h, hx, kk⟩ := h
    refine ⟨_, hbody A outer s H E hr, g, H, g, _, [], _, ex, StD.start b r, law _ _ _ h, hx, fun ρ' σ' g' H' h l s => kk _ _ g' H' h s.base .non, fun d v ρ' σ' g' H' h l s r => kk d v g' H' h s.base r, fun _ _ _ _ h => h.elim, fun _ _ _ _ h => h.elim⟩
section
variable {X : Cx} {c : Cfg} {E : XK} {a b : Expr} {es : List Expr} {pos : Pos} {ta tb : DW} {ha hb : DH}
/-- what a callee lets out -/
theorem spOf_at {ds : DSp} {g0 g : Gh} {H0 H : Hp} {ρ : List Cell} {σ : L2.St} {τ : List (Addr × HO)} {vs : List V} {args : List D} {q : D → List Cell → Prop} {ex : XD} {Q : VK} (st : StD c g0 H0 g H ρ σ τ) (r : Reps c.K g vs args) (h : ds args (fun d => q d ρ) ex) (hx : ExcK c g0 H0 ex E)
    (kk : ∀ d v g' H', q d ρ → g.le g' → StD c g0 H0 g' H' ρ σ τ → Rep c.K g' v d → Q v H') : spOf c ds vs H Q E :=
  ⟨g, args, _, ex, st.base.good, r, h, fun C fs g' H' dd xfs e b => hx C fs g' H' dd xfs e (st.base.trans b), fun d v g' H' h b r => kk d v g' H' h b.le (st.step b) r⟩
def dCall (ds : DSp) (dd : List D) (t : DA) : DW := fun ρ q ex => t ρ (fun args ρ1 => ds (args ++ dd) (fun d => q d ρ1) ex) ex
theorem lift_call {ds : DSp} {dd : List D} {dvs : List V} {t : DA} (hd : ∀ g, Reps c.K g dvs dd) {σ : L2.St} {H : Hp} {Q : VK} (h : liftE c E (dCall ds dd t) σ H Q) : tCall (spOf c ds) dvs E (liftA c E t) σ H Q := by
  obtain ⟨g0, H0, g, ρ, τ, q, ex, st, h, hx, kk⟩ := h
  exact ⟨g0, H0, g, ρ, τ, _, ex, st, h, hx, fun args ρ1 vs g1 H1 h1 l1 st1 r1 => spOf_at st1 (r1.append (hd g1)) h1 hx fun d v g' H' h l s r => kk d ρ1 v g' H' h (l1.trans l) s r⟩
variable {k : Nat} {f C : Addr} {fd : FuncData} {ps : List Str} {dvs : List V} {dsv : List Value} {x m : Str} {p apos : Pos} {ds : DSp} {dd : List D} {t : DA}
theorem pd_call (F : FnOk X.prog X.w X.K X.mg X.base (L2.CX X.prog X.w) k f fd ps (spOf c ds)) (hr : Room k X.A) (hg : Gl X x) (hm : X.mg x = some (.ref f)) (hk : PySem.W.keepIn X.K (.ref f) = true) (hb : Binds X.K fd ps dsv) (hv : Vals dvs dsv) (hd : ∀ g, Reps c.K g dvs dd) (hx : Passes (L2.CX X.prog X.w) X E)
    (ha : PDA X c E (a :: es) t) (hdb : (x == ("__debug__" : Str)) = false := by decide) (he : starEach (a :: es) X.env = (false, eval a X.env) :: starEach es X.env := by rfl) (hpl : (backTo pos (starEach es X.env)).any (·.1) = false := by rfl) :
    PD X c E (.Call (.Name x p) (a :: es) [] pos) (dCall ds dd t) := (pe_call F hr hg hm hk hb hv hx ha hdb he hpl).imp fun _ _ _ h => lift_call hd h
/-- a field; a method of a frozen object -/
theorem lookup_rep {K : PySem.W.Frag} {g : Gh} {y : Str} {d : D} : ∀ {fs : List (Str × V)} {ds : List (Str × D)}, fs.map (·.1) = ds.map (·.1) → Reps K g (fs.map (·.2)) (ds.map (·.2)) → ds.lookup y = some d → ∃ v, fs.lookup y = some v ∧ Rep K g v d
  | [], [], _, _, h => by cases h
  | [], _ :: _, e, _, _ => by cases e
  | _ :: _, [], e, _, _ => by cases e
  | (n, v) :: fs, (n', d') :: ds, e, r, h => by
    simp only [List.map_cons, List.cons.injEq] at e
    obtain ⟨e1, e2⟩ := e
    subst e1
    cases r with | cons r rr =>
    simp only [List.lookup] at h ⊢
    cases q : (y == n) with
    | true => rw [q] at h; cases h; exact ⟨v, rfl, r⟩
    | false => rw [q] at h; exact lookup_rep e2 rr h
theorem lookup_none {y : Str} : ∀ {fs : List (Str × V)} {ds : List (Str × D)}, fs.map (·.1) = ds.map (·.1) → ds.lookup y = none → fs.lookup y = none
  | [], [], _, h => rfl
  | [], _ :: _, e, _ => by cases e
  | _ :: _, [], e, _ => by cases e
  | (n, v) :: fs, (n', d') :: ds, e, h => by
    simp only [List.map_cons, List.cons.injEq] at e
    obtain ⟨e1, e2⟩ := e
    subst e1
    simp only [List.lookup] at h ⊢
    cases q : (y == n) with
    | true => rw [q] at h; cases h
    | false => rw [q] at h; exact lookup_none e2 h
def dFld (C : Addr) (y : Str) (ha : DH) : DW := fun ρ q ex => ha ρ (fun x ρ1 => ∃ fs d, res ρ1 x = some (.obj C fs) ∧ fs.lookup y = some d ∧ q d ρ1) ex
theorem pd_fld (hK : X.K = c.K) (cl : Cls c.K C) (na : NoAttr c.K C m) (h : PH X c E a ha) (hb : attributeBase a m X.env (eval a X.env) = eval a X.env := by rfl) : PD X c E (.Attribute a m pos) (dFld C m ha) := (pe_fld h hb).imp fun σ H Q ⟨g0, H0, g, ρ, τ, q, ex, st, h, hx, kk⟩ => by
  refine ⟨g0, H0, g, ρ, τ, _, ex, st, h, hx, fun x ρ1 v g1 H1 h1 l1 st1 r1 => ?_⟩
  obtain ⟨fs, d, e, hl, h2⟩ := h1
  obtain ⟨o, dx, fvs, e2, h3, h4, h5⟩ := (r1.sh st1 e).obj' st1.base.good
  obtain ⟨v2, h6, h7⟩ := lookup_rep h4 h5 hl
  rw [hK]
  exact ⟨o, C, dx, fvs, v2, e2, h3, cl, na, h6, kk d ρ1 v2 g1 H1 h2 l1 st1 h7⟩
def dMeth (C : Addr) (y : Str) (ds : DSp) (ta : DW) (t : DA) : DW := fun ρ q ex => ta ρ (fun o ρ1 => ∃ fs, o = .obj C fs ∧ fs.lookup y = none ∧ t ρ1 (fun args ρ2 => ds (.obj C fs :: args) (fun d => q d ρ2) ex) ex) ex
theorem lift_meth {E' : XK} (he : E' = E) {σ : L2.St} {H : Hp} {Q : VK} (h : liftE c E (dMeth C m ds ta t) σ H Q) : tMeth C m (spOf c ds) [] E' (liftE c E ta) (liftA c E t) σ H Q := by
  subst he
  obtain ⟨g0, H0, g, ρ, τ, q, ex, st, h, hx, kk⟩ := h
  refine ⟨g0, H0, g, ρ, τ, _, ex, st, h, hx, fun o ρ1 v g1 H1 h1 l1 st1 r1 => ?_⟩
  obtain ⟨fs, e, hn, h2⟩ := h1
  subst e
  cases r1 with | obj h3 h4 h5 =>
  refine ⟨_, _, _, rfl, st1.base.sub _ _ h3, lookup_none h4 hn, g0, H0, g1, ρ1, τ, _, ex, st1, h2, hx, fun args ρ2 vs g2 H2 h6 l2 st2 r2 => ?_⟩
  show spOf c ds (V.ref _ :: (vs ++ [])) H2 Q E'
  rw [List.append_nil]
  exact spOf_at st2 (.cons ((Rep.obj h3 h4 h5).mono l2) r2) h6 hx fun d v g' H' h l s r => kk d ρ2 v g' H' h ((l1.trans l2).trans l) s r
theorem pd_meth {pl : Sem Bool} (hK : X.K = c.K) (he : PD X c E b ta) (cl : Cls X.K C) (hm : Meth X.K C m f) (F : FnOk X.prog X.w X.K X.mg X.base (L2.CX X.prog X.w) k f fd ps (spOf c ds)) (hr : Room k X.A) (hb : Binds X.K fd ps []) (hx : Passes (L2.CX X.prog X.w) X E) (ha : PDA X c E (a :: es) t)
    (hst : starEach (a :: es) X.env = (false, eval a X.env) :: starEach es X.env := by rfl) (hpl : (backTo pos (starEach es X.env)).any (·.1) = false := by rfl)
    (ht : eval (.Call (.Attribute b m apos) (a :: es) [] pos) X.env = (do
      let ov ← eval b X.env
      standAt apos.atName
      let (f, first) ← holding [ov] (getMethod ov m pl)
      callWith pos f first (backTo pos (starEach (a :: es) X.env)) (backToKw pos (keywordEach [] X.env))) := by rfl) :
    PD X c E (.Call (.Attribute b m apos) (a :: es) [] pos) (dMeth C m ds ta t) := (pe_meth he cl hm F hr hb .nil hx ha hst hpl ht).imp fun _ _ _ h => lift_meth rfl h
theorem pd_meth0 {pl : Sem Bool} (hK : X.K = c.K) (he : PD X c E b ta) (cl : Cls X.K C) (hm : Meth X.K C m f) (F : FnOk X.prog X.w X.K X.mg X.base (L2.CX X.prog X.w) k f fd ps (spOf c ds)) (hr : Room k X.A) (hb : Binds X.K fd ps []) (hx : Passes (L2.CX X.prog X.w) X E)
    (ht : eval (.Call (.Attribute b m apos) [] [] pos) X.env = (do
      let ov ← eval b X.env
      standAt apos.atName
      let (f, first) ← holding [ov] (getMethod ov m pl)
      callWith pos f first (backTo pos (starEach [] X.env)) (backToKw pos (keywordEach [] X.env))) := by rfl) :
    PD X c E (.Call (.Attribute b m apos) [] [] pos) (dMeth C m ds ta dNil) := (pe_meth0 he cl hm F hr hb .nil hx ht).imp fun σ H Q h => by
  have h2 := lift_meth (E := E) (c := c) (m := m) rfl h
  obtain ⟨g0, H0, g, ρ, τ, q, ex, st, h, hx, kk⟩ := h2
  refine ⟨g0, H0, g, ρ, τ, q, ex, st, h, hx, fun o ρ1 v g1 H1 h1 l1 st1 r1 => ?_⟩
  obtain ⟨a, dx, fs, e1, e2, e3, h4⟩ := kk o ρ1 v g1 H1 h1 l1 st1 r1
  obtain ⟨g0', H0', g', ρ', τ', q', ex', st', h', hx', kk'⟩ := h4
  exact ⟨a, dx, fs, e1, e2, e3, kk' [] ρ' [] g' H1 h' g'.le_refl st' .nil⟩
/-- a property of a frozen object -/
def dProp (C : Addr) (ds : DSp) (ta : DW) : DW := fun ρ q ex => ta ρ (fun o ρ1 => ∃ fs, o = .obj C fs ∧ ds [.obj C fs] (fun d => q d ρ1) no) ex
theorem pd_prop {pp : Addr} (he : PD X c E a ta) (cl : Cls X.K C) (hp : PropOf X.K C m pp f) (F : FnOk X.prog X.w X.K X.mg X.base (L2.CX X.prog X.w) k f fd ps (spOf c ds)) (hr : Room (k + 1) X.A) (hb : Binds X.K fd ps []) (hab : attributeBase a m X.env (eval a X.env) = eval a X.env := by rfl) :
    PD X c E (.Attribute a m pos) (dProp C ds ta) := (pe_prop (E := E0) he cl hp F hr hb .nil passL hab).imp fun σ H Q ⟨g0, H0, g, ρ, τ, q, ex, st, h, hx, kk⟩ => by
  refine ⟨g0, H0, g, ρ, τ, _, ex, st, h, hx, fun o ρ1 v g1 H1 h1 l1 st1 r1 => ?_⟩
  obtain ⟨fs, e, h2⟩ := h1
  subst e
  cases r1 with | obj h3 h4 h5 =>
  exact ⟨_, _, _, rfl, st1.base.sub _ _ h3, spOf_at (E := E0) st1 (.cons (Rep.obj h3 h4 h5) .nil) h2 exc_no fun d v g' H' h l s r => kk d ρ1 v g' H' h (l1.trans l) s r⟩
end
end D7
namespace D7
open PySem PySem.Spec PyProof.Rows L2
/-! ### sets of ints -/
section
variable {X : Cx} {pins : List (Addr × Obj)} {σ : L2.St} {H : Hp} {s : Shared}
/-- an object of ours, not told of yet, is told of -/
theorem inv_track (I : Inv X pins σ H s) {d : Addr} {o : HO} (hn : H d = none) (hs : X.s_0.heap.objs.size ≤ d) (hL : d ≠ X.env.locals) (hc : ∀ x c, X.env.cells.lookup x = some c → c ≠ d) (hp : ∀ p ∈ X.pn ++ pins, p.1 ≠ d)
    (hf : d ∉ X.ex) (new : ObjOk X.prog X.w (upd H d o) s.heap d o) : Inv X pins σ (upd H d o) s := by
  obtain ⟨ok, os, bare, base, loc, cell, free, freeC, pin, hok, len⟩ := I
  have ex : ∀ b u, H b = some u → upd H d o b = some u := fun b u e => by rw [upd_ne (ne_of_none e hn)]; exact e
  refine ⟨ok, os, bare, ⟨base.keep, base.slot, fun b u e n hx => ?_, base.there, fun b xs e => ex _ _ (base.tups b xs e), fun b u v e => ex _ _ (base.frzs b u v e), fun b ps e => ?_⟩, loc, cell, ?_, fun x c e => ?_, fun p hm => ?_, fun b u e => ?_, len⟩
  · rw [upd_ne (fun z => absurd (Nat.lt_of_lt_of_le (Heap.lt_size e) hs) (by rw [z]; exact Nat.lt_irrefl _))]
    exact base.free b u e n hx
  · obtain ⟨more, e2⟩ := base.tbls b ps e
    exact ⟨more, ex _ _ e2⟩
  · rw [upd_ne (Ne.symm hL)]; exact free
  · rw [upd_ne (hc x c e)]; exact freeC x c e
  · obtain ⟨h1, h2, h3⟩ := pin p hm
    exact ⟨h1, by rw [upd_ne (hp p hm)]; exact h2, h3⟩
  · by_cases e2 : b = d
    · rw [e2, upd_same] at e; cases e; rw [e2]; exact new
    · rw [upd_ne e2] at e
      exact (hok b u e).stay (fun _ _ _ q => q) (fun c q => ex _ _ q) fun c xs q => ex _ _ q
end
section
variable {X : Cx}
/-- {e}, e an int -/
def tSet1 (te : TE) : TE := fun σ H Q => te σ H fun x H1 => ∃ k, x = .int k ∧ ∀ p, H1 p = none → Q (.ref p) (upd H1 p (.set (fun j => decide (j = k)) 1))
theorem pe_set1 {e : Expr} {te : TE} {pos : Pos} (hex : X.ex = []) (hcd : PySem.W.kdsCode X.K X.env.code = true) (hpl : PySem.W.kdsPlain e = true) (he : PE X e te) : PE X (.Set [e] 0 pos) (tSet1 te) := by
  refine ⟨fun pins s σ H Q I h => ?_⟩
  rw [arm_eval_Set]
  refine wpAny_bind (wpAny_standAt ?_)
  refine wpAny_bind (PySem.W.kds_main I.kIn hcd fun b => ?_)
  rw [PySem.W.kds_star [e] (by rw [List.all_cons, hpl]; rfl), List.map_map]
  refine PySem.W.kds_core (ts := (evalEach [e] X.env).map fun t => do let v ← t; standAt pos; pure v) (by rfl) ?_ ?_ ?_ fun led => ?_
  · refine List.findIdx?_eq_none_iff.mpr fun x hx => ?_
    obtain ⟨t, _, rfl⟩ := List.mem_map.mp hx
    rfl
  · rw [List.length_map, PySem.W.kds_len]
    show 1 ≤ 30
    decide
  · rw [List.map_map]
    try rfl
  · refine PySem.W.kds_all pos [e] _ _ ?_
    have fr : ∀ (H' : Hp), H' s.heap.objs.size = none → FpOk X pins H' s.heap.objs.size := fun H' n => I.fpOk (Nat.le_refl _) n
    obtain ⟨f0, f1, f2, f3, f4, f5⟩ := fr H (I.hok.fresh (Nat.le_refl _))
    have I1 : Inv X pins σ H { s with heap := s.heap.push { cls := .type "set", dict := none, data := .set #[] 0 (.fresh 0 0 led) } } := I.kept (t' := s.toks) fun b o e => Heap.get?_push_of_some _ e
    have I2 : Inv X (pins ++ [(s.heap.objs.size, { cls := .type "set", dict := none, data := .set #[] 0 (.fresh 0 0 led) })]) σ H { s with heap := s.heap.push { cls := .type "set", dict := none, data := .set #[] 0 (.fresh 0 0 led) } } := I1.pins_of fun p hp => by
      rcases List.mem_append.mp hp with z | z
      · exact I1.pin p (List.mem_append_right _ z)
      · rw [List.mem_singleton.mp z]
        exact ⟨Heap.get?_push_size _ rfl, f0, f1, f2, fun v => nofun⟩
    show wpAny _ _ (eval e X.env) _ _ _
    refine thn (he.run _ _ σ H _ I2 h) fun u s1 hu => ?_
    obtain ⟨x, H1, J, r1, k, ex, q⟩ := hu
    subst ex
    obtain ⟨t, rfl⟩ := r1
    obtain ⟨p1, p2, _⟩ := J.pin (s.heap.objs.size, { cls := .type "set", dict := none, data := .set #[] 0 (.fresh 0 0 led) }) (List.mem_append_right _ (List.mem_append_right _ (List.mem_singleton.mpr rfl)))
    have S0 : s1.heap.SetOf (intKind X.prog X.w) s.heap.objs.size (fun _ => false) 0 := ⟨_, #[], 0, _, p1, ⟨rfl, rfl, rfl⟩, rfl, (fun e he => by simp at he), (fun k => by simp), (by decide), (by rfl), rfl⟩
    show PySem.W.KdsFill _ _ _ _ _ _ [Value.int k t] s1
    refine PySem.W.kds_fill_cons ?_
    unfold setAdd
    refine wpAny_holding (wpAny_bind ((intKind X.prog X.w).pyHash (k := k) (intKind_is _ _ _ _) ?_))
    refine wpAny_setAddHashed_of (knd := intKind X.prog X.w) (s := { s1 with toks := s1.toks + 1 }) (intKind_is _ _ _ _) rfl S0 (by unfold scanBound; omega) fun h' sb hS' => ?_
    refine PySem.W.kds_fill_nil rfl ?_
    have J0 : Inv X pins σ H1 s1 := J.unpinned
    have J1 : Inv X pins σ H1 { s1 with heap := h', toks := s1.toks + 1 } := J0.turned (it := s.heap.objs.size) (fun b o hb e => (sb.2 b hb).trans e) p2 f1 f3 f4 f5
    have hz : X.s_0.heap.objs.size ≤ s.heap.objs.size := I.sz
    have S1 : h'.SetOf (intKind X.prog X.w) s.heap.objs.size (fun j => decide (j = k)) 1 := SetOf_congr hS' (fun j => by simp) (by simp)
    refine ⟨.ref s.heap.objs.size, _, inv_track (d := s.heap.objs.size) (o := .set (fun j => decide (j = k)) 1) J1 p2 hz f1 f4 f5 (by rw [hex]; exact fun z => nomatch z) S1, rfl, q _ p2⟩
/-- k in found, k not in found; found.add(k) -/
def rSetIn (neg : Bool) : R2 := fun x y H Q => ∃ k a S n, x = V.int k ∧ y = V.ref a ∧ H a = some (.set S n) ∧ Q (.bl (xor neg (S k))) H
theorem op_setIn : OpR X (compareOp .In) (rSetIn false) := by
  intro pins s σ H x y v u Q I rx ry h
  obtain ⟨k, a, S, n, rfl, rfl, ha, q⟩ := h
  cases ry
  obtain ⟨t, rfl⟩ := rx
  exact wpAny_inSet_of (knd := intKind X.prog X.w) (intKind_is _ _ _ _) rfl (I.hok a _ ha) ⟨.bl (S k), H, I.tok _, rfl, by simpa using q⟩
theorem op_setNotIn : OpR X (compareOp .NotIn) (rSetIn true) := by
  intro pins s σ H x y v u Q I rx ry h
  obtain ⟨k, a, S, n, rfl, rfl, ha, q⟩ := h
  cases ry
  obtain ⟨t, rfl⟩ := rx
  exact wpAny_notInSet_of (knd := intKind X.prog X.w) (intKind_is _ _ _ _) rfl (I.hok a _ ha) ⟨.bl (!S k), H, I.tok _, rfl, by simpa using q⟩
def rSetAdd : V → List V → Hp → VK → Prop := fun x xs H Q => ∃ (a : Addr) (k : Int) (S : Int → Bool) (n : Nat), x = V.ref a ∧ xs = [V.int k] ∧ H a = some (.set S n) ∧ n + 1 < scanBound ∧ Q .non (upd H a (.set (fun j => S j || decide (j = k)) (if S k = true then n else n + 1)))
theorem mt_setAdd : MtR X "set.add" rSetAdd := by
  intro pins s σ H x xs v us Q I rx rxs h
  obtain ⟨a, k, S, n, rfl, rfl, ha, room, q⟩ := h
  cases rx
  cases rxs with
  | cons ry rt =>
    cases rt
    obtain ⟨t, rfl⟩ := ry
    refine call_set_add (knd := intKind X.prog X.w) (intKind_is _ _ _ _) rfl (I.hok a _ ha) room fun h' sb new => ?_
    have he : ∃ u, h'.get? a = some u := by
      have ⟨o, _, _, _, ho, _⟩ := new
      exact ⟨o, ho⟩
    exact ⟨.non, upd H a (.set (fun j => S j || decide (j = k)) (if S k = true then n else n + 1)), I.write (e := a) (t' := s.toks + 1) (by rw [ha]; trivial) (.inl rfl) (fun b u hb hu => (sb.2 b hb).trans hu) he new, rfl, q⟩
end
section
variable {X : Cx} {c : Cfg} {E : XK} {a b : Expr} {es : List Expr} {pos : Pos} {ta tb : DW} {ha hb : DH}
def cSet1 (ta : DW) : DC := fun ρ q ex => ta ρ (fun d ρ1 => ∃ k, d = .int k ∧ q (.os (fun j => decide (j = k)) 1) ρ1) ex
theorem pc_set1 (hex : X.ex = []) (hcd : PySem.W.kdsCode X.K X.env.code = true) (hpl : PySem.W.kdsPlain a = true) (h : PD X c E a ta) : PC X c E (.Set [a] 0 pos) (cSet1 ta) := (pe_set1 hex hcd hpl h).imp fun σ H Q ⟨g0, H0, g, ρ, τ, q, ex, st, h, hx, kk⟩ => by
  refine ⟨g0, H0, g, ρ, τ, _, ex, st, h, hx, fun d ρ1 v g1 H1 h1 l1 st1 r1 => ?_⟩
  obtain ⟨k, e, h2⟩ := h1
  subst e
  cases r1
  exact ⟨k, rfl, fun p hp => kk _ ρ1 _ g1 _ [(p, .set (fun j => decide (j = k)) 1)] h2 l1 (st1.new hp rfl) (.own ⟨rfl, rfl⟩)⟩
/-- k in S -/
def kInS (neg : Bool) : D → D → (D → Prop) → Prop := fun d e p => match d, e with
  | .int k, .set S _ => p (.bl (xor neg (S k)))
  | d, e => kIn neg d e p
theorem opd_inS : OpD c (fun x y H Q => rSetIn false x y H Q ∨ rInAny c.K x y H Q) (kInS false) := by
  intro g H x y d e p Q b rx ry h n
  by_cases z : ∃ k S m, d = .int k ∧ e = .set S m
  · obtain ⟨k, S, m, rfl, rfl⟩ := z
    obtain ⟨a, e2, h2⟩ := ry.set' b
    exact .inl ⟨k, a, S, m, rx.int, e2, h2, n.same b h (.bl _)⟩
  · have h : kIn false d e p := by
      unfold kInS at h
      split at h
      · exact absurd ⟨_, _, _, rfl, rfl⟩ z
      · exact h
    exact .inr (opd_in g H x y d e p Q b rx ry h n)
theorem opd_notInS : OpD c (fun x y H Q => rSetIn true x y H Q ∨ rNotInAny c.K x y H Q) (kInS true) := by
  intro g H x y d e p Q b rx ry h n
  by_cases z : ∃ k S m, d = .int k ∧ e = .set S m
  · obtain ⟨k, S, m, rfl, rfl⟩ := z
    obtain ⟨a, e2, h2⟩ := ry.set' b
    exact .inl ⟨k, a, S, m, rx.int, e2, h2, n.same b h (.bl _)⟩
  · have h : kIn true d e p := by
      unfold kInS at h
      split at h
      · exact absurd ⟨_, _, _, rfl, rfl⟩ z
      · exact h
    exact .inr (opd_notIn g H x y d e p Q b rx ry h n)
theorem op_inS (hu : X.A.units + 65 < cLine) : OpR X (compareOp .In) (fun x y H Q => rSetIn false x y H Q ∨ rInAny X.K x y H Q) := op_setIn.or (op_inAny hu)
theorem op_notInS (hu : X.A.units + 65 < cLine) : OpR X (compareOp .NotIn) (fun x y H Q => rSetIn true x y H Q ∨ rNotInAny X.K x y H Q) := op_setNotIn.or (op_notInAny hu)
/-! ### what a def changes of its own -/
theorem StD.lend {g0 g : Gh} {H0 H : Hp} {ρ : List Cell} {σ : L2.St} {τ : List (Addr × HO)} (st : StD c g0 H0 g H ρ σ τ) {i : Nat} {cl : Cell} (hi : ρ[i]? = some cl) (ho : cl.own = true) (nb : ∀ a C fs, cl ≠ .ob a C fs) :
    ∃ a o, σ[i]? = some (some (.ref a)) ∧ H a = some o ∧ CellHO c.K g cl o ∧ StD c g0 H0 g H (ρ.set i .off) σ ((a, o) :: τ) := by
  have lt : i < ρ.length := (List.getElem?_eq_some_iff.mp hi).1
  have key : ∃ a o, σ[i]? = some (some (.ref a)) ∧ H a = some o ∧ CellHO c.K g cl o ∧ plainO o = true ∧ Own H0 g a := by
    have z := st.ok i cl hi
    cases cl with
    | off => cases ho
    | scr _ => cases ho
    | fz _ => cases ho
    | ow ds => obtain ⟨a, xs, e, h1, r, w⟩ := z; exact ⟨a, _, e, h1, r, rfl, w⟩
    | os S n => obtain ⟨a, e, h1, w⟩ := z; exact ⟨a, _, e, h1, ⟨rfl, rfl⟩, rfl, w⟩
    | od ds => obtain ⟨a, kvs, e, h1, k, r, w⟩ := z; exact ⟨a, _, e, h1, ⟨k, r⟩, rfl, w⟩
    | ot ds => obtain ⟨a, kvs, e, h1, k, r, w⟩ := z; exact ⟨a, _, e, h1, ⟨k, r⟩, rfl, w⟩
    | ob a C fs => exact absurd rfl (nb a C fs)
  obtain ⟨a, o, e, h1, h2, h3, w⟩ := key
  have g1 : ∀ {m : Nat} {cm : Cell}, (ρ.set i .off)[m]? = some cm → cm.own = true → i ≠ m ∧ ρ[m]? = some cm := fun {m cm} hm om => by
    by_cases e : i = m
    · subst e
      rw [List.getElem?_set_self lt] at hm; cases hm; cases om
    · rw [List.getElem?_set_ne e] at hm
      exact ⟨e, hm⟩
  refine ⟨a, o, e, h1, h2, st.base, by rw [List.length_set]; exact st.len, fun j cj hj => ?_, fun j k cj ck b hjk hj hk oj ok sj sk => ?_, fun p hp => ?_, ?_⟩
  · by_cases e2 : i = j
    · subst e2
      rw [List.getElem?_set_self lt] at hj
      cases hj
      trivial
    · rw [List.getElem?_set_ne e2] at hj
      exact st.ok j cj hj
  · exact st.ne j k cj ck b hjk (g1 hj oj).2 (g1 hk ok).2 oj ok sj sk
  · rcases List.mem_cons.mp hp with z | hp
    · subst z
      refine ⟨h1, w, h3, fun m cm hm om z => ?_⟩
      obtain ⟨n1, n2⟩ := g1 hm om
      exact st.ne i m cl cm a n1 hi n2 ho om e z
    · obtain ⟨k1, k2, k3, k4⟩ := st.pin p hp
      exact ⟨k1, k2, k3, fun m cm hm om => k4 m cm (g1 hm om).2 om⟩
  · refine List.nodup_cons.mpr ⟨fun hm => ?_, st.pnd⟩
    obtain ⟨p, hp, e2⟩ := List.mem_map.mp hm
    exact (st.pin p hp).2.2.2 i cl hi ho (by rw [e2]; exact e)
theorem StD.back {g0 g : Gh} {H0 H : Hp} {ρ : List Cell} {σ : L2.St} {τ : List (Addr × HO)} {i : Nat} {a : Addr} {o : HO} {cl : Cell} (st : StD c g0 H0 g H (ρ.set i .off) σ ((a, o) :: τ)) (hs : σ[i]? = some (some (.ref a))) (r : CellHO c.K g cl o) : StD c g0 H0 g H (ρ.set i cl) σ τ := by
  have := st.setO (i := i) r
  rw [List.set_set] at this
  have e : σ.set i (some (.ref a)) = σ := by
    obtain ⟨lt, h1⟩ := List.getElem?_eq_some_iff.mp hs
    rw [← h1]; exact List.set_getElem_self lt
  rwa [e] at this
/-- a method that changes the receiver -/
def MutD (c : Cfg) (r : V → List V → Hp → VK → Prop) (k : Cell → List D → (D → Cell → Prop) → Prop) : Prop := ∀ g H (a : Addr) o cl vs args (p : D → Cell → Prop) (Q : VK), Good c g H → H a = some o → CellHO c.K g cl o → Reps c.K g vs args → k cl args p →
  (∀ z v cl' o', p z cl' → Rep c.K g v z → CellHO c.K g cl' o' → plainO o' = true → Q v (upd H a o')) → r (.ref a) vs H Q
def isCell (T : String) : Cell → Bool
  | .ow _ => T == "list"
  | .os _ _ => T == "set"
  | .od _ => T == "dict"
  | .ot _ => T == "dict"
  | _ => false
def dMut (T : String) (i : Nat) (k : Cell → List D → (D → Cell → Prop) → Prop) (t : DA) : DW := fun ρ q ex => (∃ cl, ρ[i]? = some cl ∧ isCell T cl = true) ∧ t ρ (fun args ρ1 => ∃ cl, ρ1[i]? = some cl ∧ isCell T cl = true ∧ k cl args fun z cl' => q z (ρ1.set i cl')) ex
theorem isCell_own {T : String} {cl : Cell} (h : isCell T cl = true) : cl.own = true ∧ ∀ a C fs, cl ≠ .ob a C fs := by
  cases cl <;> first | (exfalso; exact Bool.noConfusion (show false = true from h)) | (refine ⟨rfl, fun _ _ _ z => ?_⟩; cases z)
theorem lift_mut {T : String} {i : Nat} {r : V → List V → Hp → VK → Prop} {k : Cell → List D → (D → Cell → Prop) → Prop} {t : DA} {te : TE} (hte : ∀ σ H Q, (∃ v, σ[i]? = some (some v) ∧ Q v H) → te σ H Q) (hk : MutD c r k) {σ : L2.St} {H : Hp} {Q : VK} (h : liftE c E (dMut T i k t) σ H Q) : te σ H fun x H1 => tyV c.K T x H1 ∧ liftA c E t σ H1 fun xs H2 => r x xs H2 Q := by
  obtain ⟨g0, H0, g, ρ, τ, q, ex, st, ⟨⟨cl, hc, hT⟩, h⟩, hx, kk⟩ := h
  obtain ⟨ho, nb⟩ := isCell_own hT
  obtain ⟨a, o, e, h1, h2, _⟩ := st.lend hc ho nb
  refine hte σ H _ ⟨.ref a, e, ?_, g0, H0, g, ρ, τ, _, ex, st, h, hx, fun args ρ1 vs g1 H1 w l1 st1 r1 => ?_⟩
  · cases cl <;> cases o <;> first | exact h2.elim | skip
    · exact .inl ⟨beq_iff_eq.mp hT, _, .inl (.inl h1)⟩
    · exact .inr (.inr (.inr ⟨beq_iff_eq.mp hT, _, _, h1⟩))
    · exact .inr (.inr (.inl ⟨beq_iff_eq.mp hT, .inl ⟨_, h1⟩⟩))
    · exact .inr (.inr (.inl ⟨beq_iff_eq.mp hT, .inr ⟨_, h1⟩⟩))
  · obtain ⟨cl1, hc1, hT1, w⟩ := w
    obtain ⟨ho1, nb1⟩ := isCell_own hT1
    obtain ⟨a1, o1, e1, k1, k2, st2⟩ := st1.lend hc1 ho1 nb1
    have ea : a1 = a := by rw [e] at e1; cases e1; rfl
    subst ea
    exact hk g1 H1 a1 o1 cl1 vs args _ _ st1.base.good k1 k2 r1 w fun z v cl' o' hp hr hco hpl => kk z _ v g1 _ hp l1 ((st2.pinUpd hpl).back e hco) hr
variable {i : Nat} {name : Str} {apos cpos : Pos} {T id : String} {r : V → List V → Hp → VK → Prop} {k : Cell → List D → (D → Cell → Prop) → Prop} {t : DA}
theorem pd_mut (hK : X.K = c.K) (pa : PlainAttrs T) (slot : Slot T name id) (hty : typeOf (.builtin id) = pure (.type "method_descriptor")) (hm : MtR X id r) (hk : MutD c r k) (ho : PE X b (tVar i)) (ha : PDA X c E (a :: es) t)
    (hbase : attributeBase b name X.env (eval b X.env) = eval b X.env := by rfl)
    (hfew : ((backTo cpos (starEach (a :: es) X.env)).all (fun x => !x.1) && (backToKw cpos (keywordEach [] X.env)).all (fun x => x.1.isSome)
      && decide ((a :: es).length + ([] : List Keyword).length + (if ([] : List Keyword).isEmpty then 0 else 1) < 30)) = true := by rfl)
    (hline : (apos.endLine == cpos.line) = true := by rfl) (hs : starEach (a :: es) X.env = (false, eval a X.env) :: starEach es X.env := by rfl) (hplain : (backTo cpos (starEach es X.env)).any (·.1) = false := by rfl) :
    PD X c E (.Call (.Attribute b name apos) (a :: es) [] cpos) (dMut T i k t) := (pe_bm pa slot hty hm ho ha hbase hfew hline hs hplain).imp fun σ H Q h => by
  rw [hK]
  exact lift_mut (fun σ H Q h => h) hk h
def kAppend : Cell → List D → (D → Cell → Prop) → Prop := fun cl args p => match cl, args with
  | .ow ds, [d] => ds.length < sizeLine ∧ p .non (.ow (ds ++ [d]))
  | _, _ => False
theorem mu_append : MutD c rAppend kAppend := by
  intro g H a o cl vs args p Q b h1 h2 r h n
  cases cl <;> first | exact h.elim | skip
  cases o <;> first | exact h2.elim | skip
  cases r with
  | nil => exact h.elim
  | cons r1 rr =>
  cases rr with
  | cons _ _ => exact h.elim
  | nil =>
  rename_i ds xs v d
  have rs : Reps c.K g xs ds := h2
  refine ⟨a, xs, v, rfl, rfl, h1, by rw [rs.length]; exact h.1, n _ _ _ (.lst (xs ++ [v])) h.2 .non ?_ rfl⟩
  exact (rs.append (.cons r1 .nil) : Reps c.K g _ _)
def kPopAt : Cell → List D → (D → Cell → Prop) → Prop := fun cl args p => match cl, args with
  | .ow ds, [.int i] => ∃ k y, -(2 ^ 63) ≤ i ∧ i < 2 ^ 63 ∧ seqIndex? i ds.length = some k ∧ ds[k]? = some y ∧ p y (.ow (ds.eraseIdx k))
  | _, _ => False
theorem mu_popAt : MutD c rPopAt kPopAt := by
  intro g H a o cl vs args p Q b h1 h2 r h n
  cases cl <;> first | exact h.elim | skip
  cases o <;> first | exact h2.elim | skip
  cases r with
  | nil => exact h.elim
  | cons r1 rr =>
  cases rr with
  | cons _ _ => 
    rename_i d _ _ _ _ _ _
    cases d <;> exact h.elim
  | nil =>
  rename_i ds xs v d
  cases r1 <;> first | exact h.elim | skip
  have rs : Reps c.K g xs ds := h2
  obtain ⟨k, y, h3, h4, h5, h6, h7⟩ := h
  obtain ⟨w, hw, rw'⟩ := rs.get h6
  refine ⟨a, xs, _, k, w, rfl, rfl, h1, h3, h4, by rw [rs.length]; exact h5, hw, n _ _ _ (.lst (xs.eraseIdx k)) h7 rw' ?_ rfl⟩
  exact (rs.eraseIdx k : Reps c.K g _ _)
def kSAdd : Cell → List D → (D → Cell → Prop) → Prop := fun cl args p => match cl, args with
  | .os S n, [.int k] => n + 1 < scanBound ∧ p .non (.os (fun j => S j || decide (j = k)) (if S k = true then n else n + 1))
  | _, _ => False
theorem mu_sadd : MutD c rSetAdd kSAdd := by
  intro g H a o cl vs args p Q b h1 h2 r h n
  cases cl <;> first | exact h.elim | skip
  cases o <;> first | exact h2.elim | skip
  cases r with
  | nil => exact h.elim
  | cons r1 rr =>
  cases rr with
  | cons _ _ => 
    rename_i d _ _ _ _ _ _
    cases d <;> exact h.elim
  | nil =>
  rename_i S m S' m' v d
  cases r1 <;> first | exact h.elim | skip
  obtain ⟨rfl, rfl⟩ := h2
  exact ⟨a, _, S, m, rfl, rfl, h1, h.1, n _ _ _ _ h.2 .non ⟨rfl, rfl⟩ rfl⟩
/-- found[e] = .. -/
def gSt (i : Nat) (hb : DH) : DG := fun d ρ q ex => (∃ cl, ρ[i]? = some cl) ∧ hb ρ (fun y ρ1 => ∃ ds j k, res ρ1 y = some (.int j) ∧ ρ1[i]? = some (.ow ds) ∧ ixN ds.length j = some k ∧ q (ρ1.set i (.ow (ds.set k d)))) ex
end
end D7
namespace D7
open PySem PySem.Spec PyProof.Rows L2
section
variable {X : Cx} {c : Cfg} {E : XK} {a b : Expr} {es : List Expr} {pos : Pos} {ta tb : DW} {ha hb : DH}
/-! ### found[e] = .. -/
def gSto (i : Nat) (hb : DH) : DG := fun d ρ q ex => (∃ ds, ρ[i]? = some (.ow ds)) ∧ hb ρ (fun y ρ1 => ∃ ds j k, res ρ1 y = some (.int j) ∧ ρ1[i]? = some (.ow ds) ∧ ixN ds.length j = some k ∧ q (ρ1.set i (.ow (ds.set k d)))) ex
theorem pdg_store {i : Nat} (ho : PE X a (tVar i)) (hi : PH X c E b hb)
    (h2 : ∀ v, assign (.Subscript a b pos) X.env v = (do
      let ov ← holding [v] (eval a X.env)
      let iv ← holding [v, ov] (eval b X.env)
      standAt pos
      holding [v, ov, iv] (setItem ov iv v)
      release [v, ov, iv] []) := by intro _; rfl) : PDG X c E [] (.Subscript a b pos) (gSto i hb) := (pg_sub ho hi set_list h2).imp fun v σ H Q ⟨g0, H0, g, ρ, τ, d, q, ex, st, r, ⟨⟨ds0, hd0⟩, h⟩, hx, kk⟩ => by
  obtain ⟨a0, o0, e, h1, h2, _⟩ := st.lend hd0 rfl (fun _ _ _ => nofun)
  refine ⟨.ref a0, e, g0, H0, g, ρ, τ, _, ex, st, h, hx, fun y ρ1 u g1 H1 w l1 st1 r1 => ?_⟩
  obtain ⟨ds, j, k, e1, e2, e3, w⟩ := w
  obtain ⟨a1, o1, e4, k1, k2, st2⟩ := st1.lend e2 rfl (fun _ _ _ => nofun)
  have ea : a1 = a0 := by rw [e] at e4; cases e4; rfl
  subst ea
  cases o1 <;> first | exact k2.elim | skip
  rename_i xs
  have rs : Reps c.K g1 xs ds := k2
  have hu := (r1.sh st1 e1).int
  refine ⟨a1, xs, j, k, rfl, hu, k1, by rw [rs.length]; exact e3, ?_⟩
  exact kk _ σ g1 _ w l1 ((st2.pinUpd (o' := .lst (xs.set k v)) rfl).back e (rs.set (r.mono l1) k : Reps c.K g1 _ _)) ⟨rfl, fun _ _ => rfl⟩
def sAsg (td : DW) (tg : DG) : DS := fun ρ k ex => td ρ (fun d ρ1 => tg d ρ1 k.nx ex) ex
theorem ds_asg {ws : List Nat} {tg : Expr} {t : DG} (h : PD X c E a ta) (hg : PDG X c E ws tg t) (hs : swapsWithSole [tg] a pos.line X.env = pure false := by rfl) (hw : swappedStores [tg] a X.env = pure none := by rfl)
    (h1 : (assignEach [tg] X.env).map (·.2) = [assign tg X.env] := by rfl) : PDS X c E (.Assign [tg] a pos) (sAsg ta t) := (ps_asg h hg hs hw h1).imp fun N σ H ⟨g0, H0, g, ρ, τ, k, ex, st, h, hx, n1, n2, n3, n4⟩ =>
  ⟨g0, H0, g, ρ, τ, _, ex, st, h, hx, fun d ρ1 v g1 H1 h1 l1 st1 r1 => ⟨g0, H0, g1, ρ1, τ, d, _, ex, st1, r1, h1, hx, fun ρ' σ' g' H' h l s _ => n1 ρ' σ' g' H' h (l1.trans l) s⟩⟩
/-! ### a, b = x, y -/
def sPar (i j : Nat) (t1 t2 : DC) : DS := fun ρ k ex => t1 ρ (fun c1 ρ1 => t2 ρ1 (fun c2 ρ2 => k.nx ((ρ2.set i c1).set j c2)) ex) ex
theorem CV.mono {K : PySem.W.Frag} {g g' : Gh} {cl : Cell} {v : V} {τ : List (Addr × HO)} (l : g.le g') (h : CV K g cl v τ) : CV K g' cl v τ := by
  cases h with
  | fz r => exact .fz (r.mono l)
  | own r => exact .own (r.mono l)
theorem StD.put {g0 g : Gh} {H0 H : Hp} {ρ : List Cell} {σ : L2.St} {τ τ' : List (Addr × HO)} {cl : Cell} {v : V} (st : StD c g0 H0 g H ρ σ (τ' ++ τ)) (h : CV c.K g cl v τ') (i : Nat) : StD c g0 H0 g H (ρ.set i cl) (σ.set i (some v)) τ := by
  cases h with
  | fz r => exact st.setF r
  | own r => exact st.setO r
theorem ds_par {i j : Nat} {x y : Str} {t1 t2 : DC} {px py pt : Pos} {kt k2 pt2} (hc : X.calm = true) (hN : X.N.Nodup) (hi : X.N[i]? = some x) (hj : X.N[j]? = some y) (hij : i ≠ j)
    (hx : X.env.scope.names.lookup x = some .local) (hy : X.env.scope.names.lookup y = some .local) (h1 : PC X c E a t1) (h2 : PC X c E b t2)
    (hw : swappedStores [.Tuple [.Name x px, .Name y py] kt pt] (.Tuple [a, b] k2 pt2) X.env = pure (some [x, y]))
    (hs : swapsWithSole [.Tuple [.Name x px, .Name y py] kt pt] (.Tuple [a, b] k2 pt2) pos.line X.env = pure false := by rfl)
    (hs1 : starEach (a :: [b]) X.env = (false, eval a X.env) :: starEach [b] X.env := by rfl) (hs2 : starEach (b :: []) X.env = (false, eval b X.env) :: starEach [] X.env := by rfl) :
    PDS X c E (.Assign [.Tuple [.Name x px, .Name y py] kt pt] (.Tuple [a, b] k2 pt2) pos) (sPar i j t1 t2) :=
  (ps_par hc hN hi hj hij hx hy (pa_cons h1 (pa_cons h2 pa_nil hs2) hs1) hw hs).imp fun N σ H ⟨g0, H0, g, ρ, τ, k, ex, st, h, hx, n1, n2, n3, n4⟩ => by
    refine ⟨g0, H0, g, ρ, τ, _, ex, st, h, hx, fun c1 ρ1 v1 g1 H1 τ1 h1 l1 st1 r1 => ?_⟩
    refine ⟨g0, H0, g1, ρ1, τ1 ++ τ, _, ex, st1, h1, hx, fun c2 ρ2 v2 g2 H2 τ2 h2 l2 st2 r2 => ?_⟩
    refine ⟨v1, v2, rfl, ?_⟩
    have s3 := (st2.put r2 j).put (r1.mono l2) i
    have z1 : (ρ2.set j c2).set i c1 = (ρ2.set i c1).set j c2 := List.set_comm _ _ (Ne.symm hij)
    have z2 : (σ.set j (some v2)).set i (some v1) = (σ.set i (some v1)).set j (some v2) := List.set_comm _ _ (Ne.symm hij)
    rw [z1, z2] at s3
    exact n1 _ _ g2 H2 h2 (l1.trans l2) s3
/-! ### sorted -/
theorem eachIs_of {K : PySem.W.Frag} {g : Gh} : ∀ {vs : List V} {us : List Value} {ds : List D}, Reps K g vs ds → Vals vs us → PySem.W.EachIs (fun u (p : V × D) => RelV p.1 u ∧ Rep K g p.1 p.2) us (vs.zip ds)
  | _, _, _, .nil, .nil => .nil
  | _, _, _, .cons h r, .cons h2 r2 => .cons ⟨h2, h⟩ (eachIs_of r r2)
theorem of_eachIs {K : PySem.W.Frag} {g : Gh} : ∀ {us : List Value} {ps : List (V × D)}, PySem.W.EachIs (fun u (p : V × D) => RelV p.1 u ∧ Rep K g p.1 p.2) us ps → Vals (ps.map (·.1)) us ∧ Reps K g (ps.map (·.1)) (ps.map (·.2))
  | _, _, .nil => ⟨.nil, .nil⟩
  | _, _, .cons h r => ⟨.cons h.1 (of_eachIs r).1, .cons h.2 (of_eachIs r).2⟩
/-- sorted(xs), of data that compare -/
def rSortedD (K : PySem.W.Frag) : List V → Hp → VK → Prop := fun vs H Q => ∃ (a : Addr) (xs : List V) (ds : List D) (g : Gh), vs = [V.ref a] ∧ SqL K H a xs ∧ Reps K g xs ds ∧ (∀ b o, g.F b = some o → H b = some o) ∧ okDs 50 ds = true ∧ PySem.W.AllAlike (ds.map toP) ∧ PySem.W.Sortable (ds.map toP) ∧
  ∀ p ys, Reps K g ys (ds.mergeSort (PySem.W.dataLe false toP)) → H p = none → Q (.ref p) (upd H p (.lst ys))
theorem map_snd_zip {α β : Type} : ∀ {xs : List α} {ys : List β}, xs.length = ys.length → (xs.zip ys).map (·.2) = ys
  | [], [], _ => rfl
  | x :: xs, y :: ys, h => by
    rw [List.zip_cons_cons, List.map_cons, map_snd_zip (by simpa using h)]
theorem cr_sortedD (hu : X.A.units + 64 < cLine) : CallR X (.builtin "sorted") (rSortedD X.K) := by
  intro pins s σ H vs us Q I r h
  obtain ⟨a, xs, ds, g, rfl, hs, rs, sb, hok, hal, hk, q⟩ := h
  obtain ⟨its, rv, hl, hz⟩ := I.list hs
  obtain ⟨u, rfl, ru⟩ := vals1 r
  obtain rfl : u = Value.ref a := ru
  have e1 := eachIs_of rs rv
  have hlen := rs.length
  have emap : (xs.zip ds).map (fun p => toP p.2) = ds.map toP := by
    rw [show (fun p : V × D => toP p.2) = toP ∘ (·.2) from rfl, ← List.map_map, map_snd_zip hlen]
  have okm : ∀ p ∈ xs.zip ds, okD 50 p.2 = true := fun p hp => by
    have := (List.of_mem_zip hp).2
    have key : ∀ (l : List D), okDs 50 l = true → ∀ d ∈ l, okD 50 d = true := by
      intro l
      induction l with
      | nil => intro _ d hd; cases hd
      | cons x l ih =>
        intro h d hd
        have h : okD 50 x = true ∧ okDs 50 l = true := by simpa [okDs] using h
        rcases List.mem_cons.mp hd with z | z
        · rw [z]; exact h.1
        · exact ih h.2 d z
    exact key ds hok _ this
  have er : PySem.W.EachIs (fun v (p : V × D) => ∃ as, Reads s.heap v (toP p.2) as) its (xs.zip ds) := by
    have : ∀ {us : List Value} {ps : List (V × D)}, PySem.W.EachIs (fun u (p : V × D) => RelV p.1 u ∧ Rep X.K g p.1 p.2) us ps → (∀ p ∈ ps, okD 50 p.2 = true) → PySem.W.EachIs (fun v (p : V × D) => ∃ as, Reads s.heap v (toP p.2) as) us ps := by
      intro us ps h
      induction h with
      | nil => intro _; exact .nil
      | cons h r ih => intro ho; exact .cons (Dp.reads I _ _ _ (h.2.dp sb (ho _ List.mem_cons_self)) h.1) (ih fun p hp => ho p (List.mem_cons_of_mem _ hp))
    exact this e1 okm
  refine PySem.W.sorted_data (enc := fun p : V × D => toP p.2) hl.isList e1 er (by rw [emap]; exact hal) (by rw [emap]; exact hk) (by rw [List.length_zip, ← hlen, Nat.min_self]; exact hz) (fun p hp => ?_) fun out ho he => ?_
  · have := (okD_lay 50 _ (okm p hp)).2
    omega
  · obtain ⟨v1, r1⟩ := of_eachIs he
    have e3 : ((xs.zip ds).mergeSort (PySem.W.dataLe false fun p : V × D => toP p.2)).map (·.2) = ds.mergeSort (PySem.W.dataLe false toP) := by
      have z := List.map_mergeSort (r := PySem.W.dataLe false fun p : V × D => toP p.2) (s := PySem.W.dataLe false toP) (f := fun p : V × D => p.2) (l := xs.zip ds) (fun a _ b _ => rfl)
      rw [z, map_snd_zip hlen]
    rw [e3] at r1
    have hp : H (s.heap.objs.size + 1) = none := I.hok.fresh (Nat.le_succ _)
    obtain ⟨e, hat⟩ := PyProof.Rows.sortedAll_at s.heap its out.toArray
    refine ⟨.ref (s.heap.objs.size + 1), _, I.laid (t' := s.toks) (o := .lst _) (fun b o q => PyProof.Rows.sortedAll_old q) (Nat.le_succ _) ⟨?_, out, e, v1, hat⟩, rfl, q _ _ r1 hp⟩
    rw [List.length_map, List.length_mergeSort, List.length_zip, ← hlen, Nat.min_self]
    exact hz
/-- rows of ints -/
def asRows : List D → Option (List (List Int))
  | [] => some []
  | .tup ds :: r => (asInts ds).bind fun ns => (asRows r).map (ns :: ·)
  | _ :: _ => none
theorem asRows_some : ∀ {ds : List D} {rs : List (List Int)}, asRows ds = some rs → ds = rs.map fun ns => .tup (ns.map .int)
  | [], _, h => by cases h; rfl
  | d :: ds, rs, h => by
    cases d <;> first | (cases h; done) | skip
    rename_i xs
    obtain ⟨ns, h1, h2⟩ := Option.bind_eq_some_iff.mp (show ((asInts xs).bind fun ns => (asRows ds).map (ns :: ·)) = some rs from h)
    obtain ⟨ms, h3, h4⟩ := Option.map_eq_some_iff.mp h2
    subst h4
    rw [asInts_some h1, asRows_some h3]
    rfl
theorem asRows_map : ∀ rs : List (List Int), asRows (rs.map fun ns => D.tup (ns.map .int)) = some rs
  | [] => rfl
  | r :: rs => by
    show ((asInts (r.map .int)).bind fun ns => (asRows (rs.map fun ns => D.tup (ns.map .int))).map (ns :: ·)) = _
    rw [asInts_map, asRows_map rs]
    rfl
def sortI (ns : List Int) : List Int := ns.mergeSort fun a b => decide (a ≤ b)
def sortR (rs : List (List Int)) : List (List Int) := rs.mergeSort fun a b => decide (a ≤ b)
def kSort : List D → (List D → Prop) → Prop := fun ds p => match ds with
  | [.lst xs] => (∃ ns, asInts xs = some ns ∧ p ((sortI ns).map .int)) ∨ (∃ rs, asRows xs = some rs ∧ (∀ r ∈ rs, r ≠ []) ∧ p ((sortR rs).map fun ns => .tup (ns.map .int)))
  | _ => False
theorem okDs_ints : ∀ (n : Nat) (ns : List Int), okDs n (ns.map D.int) = true
  | _, [] => rfl
  | n, i :: ns => by
    have := okDs_ints n ns
    simp only [List.map_cons, okDs, okD, Bool.true_and]
    exact this
theorem toP_ints : ∀ ns : List Int, toPs (ns.map D.int) = ns.map PyData.int
  | [] => rfl
  | i :: ns => by rw [List.map_cons, List.map_cons, toPs, toP, toP_ints ns]
theorem cl_sorted : CallL c (rSortedD c.K) kSort := by
  intro g H xs ds p Q b r h n
  cases r with
  | nil => exact h.elim
  | @cons v vs d ds r rr =>
  cases rr with
  | cons _ _ => cases d <;> exact h.elim
  | nil =>
  cases d <;> first | exact h.elim | skip
  rename_i ds
  obtain ⟨a, ys, e, hx, rs⟩ := r.lst' b
  subst e
  rcases h with ⟨ns, h1, h2⟩ | ⟨ns, h1, hne, h2⟩
  · have e := asInts_some h1
    subst e
    refine ⟨a, ys, _, g, rfl, .inl (.inl hx), rs, b.sub, okDs_ints _ _, ?_, ?_, fun p zs hr hn => n _ _ p h2 ?_ hn⟩
    · intro d hd d' hd'
      rw [List.map_map] at hd hd'
      obtain ⟨i, _, rfl⟩ := List.mem_map.mp hd
      obtain ⟨j, _, rfl⟩ := List.mem_map.mp hd'
      simp [toP, PySem.W.alike]
    · refine .inr fun d hd => ?_
      rw [List.map_map] at hd
      obtain ⟨i, _, rfl⟩ := List.mem_map.mp hd
      simp [toP]
    · have : (sortI ns).map D.int = (ns.map D.int).mergeSort (PySem.W.dataLe false toP) := by
        unfold sortI
        refine List.map_mergeSort fun a _ b _ => ?_
        have h3 := congrFun (congrFun (PySem.W.dataLe_int (fun i : Int => i)) a) b
        show _ = PySem.W.dataLe false toP (.int a) (.int b)
        rw [← h3]
        simp only [PySem.W.dataLe, PySem.W.sortLe, toP]
      rw [this]
      exact hr
  · have e := asRows_some h1
    subst e
    refine ⟨a, ys, _, g, rfl, .inl (.inl hx), rs, b.sub, ?_, ?_, ?_, fun p zs hr hn => n _ _ p h2 ?_ hn⟩
    · have : ∀ rs : List (List Int), okDs 50 (rs.map fun ns => D.tup (ns.map .int)) = true := by
        intro rs
        induction rs with
        | nil => rfl
        | cons r rs ih =>
          simp only [List.map_cons, okDs, okD, Bool.and_eq_true]
          exact ⟨okDs_ints _ _, ih⟩
      exact this ns
    · intro d hd d' hd'
      rw [List.map_map] at hd hd'
      obtain ⟨i, _, rfl⟩ := List.mem_map.mp hd
      obtain ⟨j, _, rfl⟩ := List.mem_map.mp hd'
      simp only [Function.comp, toP, PySem.W.alike, toP_ints]
      exact PySem.W.alike_ints _ _
    · refine .inl fun d hd => ?_
      rw [List.map_map] at hd
      obtain ⟨r, hr, rfl⟩ := List.mem_map.mp hd
      cases r with
      | nil => exact absurd rfl (hne [] hr)
      | cons i r =>
        simp only [Function.comp, toP, List.map_cons, toPs]
        exact ⟨_, _, rfl⟩
    · have : (sortR ns).map (fun ns => D.tup (ns.map .int)) = (ns.map fun ns => D.tup (ns.map .int)).mergeSort (PySem.W.dataLe false toP) := by
        unfold sortR
        refine List.map_mergeSort fun a _ b _ => ?_
        have h3 := PySem.W.dataLt_ints b a
        show _ = PySem.W.dataLe false toP (.tup (a.map .int)) (.tup (b.map .int))
        have h4 : PySem.W.dataLe false toP (.tup (a.map .int)) (.tup (b.map .int)) = !PySem.W.dataLt (.tuple (b.map .int)) (.tuple (a.map .int)) := by
          rw [PySem.W.dataLe_eq]
          simp only [toP, toP_ints, cond_false]
        rw [h4, PySem.W.dataLt_tuple]
        show _ = !PySem.W.rowLt (b.map .int) (a.map .int)
        rw [h3]
        by_cases hab : a ≤ b
        · simp [hab, List.not_lt.mpr hab]
        · simp [hab, List.not_le.mp hab]
      rw [this]
      exact hr
end
end D7
namespace D7
open PySem PySem.Spec PyProof.Rows L2
/-! ### isinstance -/
/-- an own class whose instances isinstance may be asked of -/
structure InsOk (K : PySem.W.Frag) (C : Addr) : Prop where
  cl : Cls K C
  ha : PySem.W.findIn K (.ref C) "__class__" = some (some (.builtin "object.__class__"))
  hn : PySem.W.specialIn K (.builtin "object.__class__") "__get__" = some (some (.builtin "getset_descriptor.__get__"))
  ht : PySem.W.takesIn K (.builtin "object.__class__") = some true
  hm : PySem.W.mroIn K C (.type "object") = some true
  no : ∀ T ∈ (["int", "bool", "tuple", "list", "str", "dict"] : List String), PySem.W.kitOne K (.ref C) (.type T) = some false
  of : ∀ T ∈ (["NoneType", "int", "bool", "tuple", "list", "str", "dict", "set"] : List String), PySem.W.kitOne K (.type T) (.ref C) = some false
def tyD : D → String
  | .non => "NoneType"
  | .bl _ => "bool"
  | .int _ => "int"
  | .str _ => "str"
  | .lst _ => "list"
  | .tup _ => "tuple"
  | .set _ _ => "set"
  | .dic _ => "dict"
  | .dtu _ => "dict"
  | .obj _ _ => ""
  | .row => "list"
  | .scr _ => "list"
/-- data, or an object of one of these classes -/
def kindD (OC : List Addr) : D → Bool
  | .obj C _ => decide (C ∈ OC)
  | .row => false
  | .scr _ => false
  | _ => true
def isT (T : String) : D → Bool
  | .obj _ _ => false
  | .bl _ => T == "bool" || T == "int"
  | d => T == tyD d
def isC (C : Addr) : D → Bool
  | .obj C' _ => decide (C' = C)
  | _ => false
theorem sh_ty {K : PySem.W.Frag} {c : Cfg} {g : Gh} {H : Hp} {v : V} {d : D} {OC : List Addr} (hK : c.K = K) (b : Good c g H) (r : Sh c.K g H v d) (hO : ∀ C ∈ OC, InsOk K C) (k : kindD OC d = true) : (∃ C fs, d = .obj C fs ∧ C ∈ OC ∧ TyX K H v (.ref C)) ∨ ((∀ C fs, d ≠ .obj C fs) ∧ TyX K H v (.type (tyD d))) := by
  subst hK
  cases d with
  | non => exact .inr ⟨fun _ _ => nofun, by rw [r.non]; exact .base .non⟩
  | bl k => exact .inr ⟨fun _ _ => nofun, by rw [r.bl]; exact .base (.bl _)⟩
  | int i => exact .inr ⟨fun _ _ => nofun, by rw [r.int]; exact .base (.int _)⟩
  | str x => exact .inr ⟨fun _ _ => nofun, by rw [r.str]; exact .base (.str _)⟩
  | lst ds => obtain ⟨a, xs, e, h, _⟩ := r.lst' b; exact .inr ⟨fun _ _ => nofun, by rw [e]; exact .base (.lst h)⟩
  | tup ds =>
    obtain ⟨a, xs, e, h, _⟩ := r.tup
    refine .inr ⟨fun _ _ => nofun, ?_⟩
    rw [e]
    rcases b.sqT h with (h | ⟨o, h⟩) | ⟨o, its, n, h1, h2, _⟩
    · exact .base (.tup h)
    · exact .fTuple h
    · exact .kTuple h1 h2
  | set S n => obtain ⟨a, e, h⟩ := r.set' b; exact .inr ⟨fun _ _ => nofun, by rw [e]; exact .set h⟩
  | dic ds => obtain ⟨a, kvs, e, h, _⟩ := r.dic' b; exact .inr ⟨fun _ _ => nofun, by rw [e]; exact .base (.dK h)⟩
  | dtu ds => obtain ⟨a, kvs, e, h, _⟩ := r.dtu' b; exact .inr ⟨fun _ _ => nofun, by rw [e]; exact .base (.dT h)⟩
  | obj C fs =>
    obtain ⟨a, dx, fvs, e, h, _⟩ := r.obj' b
    have hm : C ∈ OC := of_decide_eq_true k
    have o := hO C hm
    exact .inl ⟨C, fs, rfl, hm, by rw [e]; exact .base (.ins h o.cl o.ha o.hn o.ht o.hm)⟩
  | scr _ => cases k
  | row => cases k
theorem isT_kit {K : PySem.W.Frag} {T : String} {d : D} (hT : T ∈ (["int", "bool", "tuple", "list", "str", "dict"] : List String)) (hd : ∀ C fs, d ≠ .obj C fs) (hr : d ≠ .row) : PySem.W.kitOne K (.type (tyD d)) (.type T) = some (isT T d) := by
  refine kit_ty ?_
  have h6 : T = "int" ∨ T = "bool" ∨ T = "tuple" ∨ T = "list" ∨ T = "str" ∨ T = "dict" := by simpa using hT
  cases d <;> first | exact absurd rfl (hd _ _) | exact absurd rfl hr | skip
  all_goals (rcases h6 with rfl | rfl | rfl | rfl | rfl | rfl <;> (simp only [tyD, isT]; decide +kernel))
section
variable {X : Cx} {c : Cfg} {E : XK} {a b : Expr} {es : List Expr} {pos : Pos} {ta tb : DW} {ha hb : DH}
theorem Base.kindF {g : Gh} {d : D} {OC : List Addr} (k : kindD OC d = true) : d ≠ .row := fun z => by subst z; cases k
/-- isinstance(e, T) -/
def dIsT (OC : List Addr) (f : D → Bool) (ha : DH) : DW := fun ρ q ex => ha ρ (fun x ρ1 => ∃ d, res ρ1 x = some d ∧ kindD OC d = true ∧ q (.bl (f d)) ρ1) ex
theorem pd_isT {OC : List Addr} {T : String} {x : Str} {p p2 : Pos} (hK : X.K = c.K) (hO : ∀ C ∈ OC, InsOk X.K C) (hT : T ∈ (["int", "bool", "tuple", "list", "str", "dict"] : List String)) (h : PH X c E a ha) (hi : Gl X "isinstance") (hm : X.mg "isinstance" = none) (hg : Gl X x) (hmx : X.mg x = none) (hb : bootBuiltins x = some (.type T))
    (hn1 : x ≠ "__name__" := by decide) (hd1 : (x == ("__debug__" : Str)) = false := by decide) (h1 : starEach (a :: [.Name x p2]) X.env = (false, eval a X.env) :: starEach [.Name x p2] X.env := by rfl) :
    PD X c E (.Call (.Name "isinstance" p) [a, .Name x p2] [] pos) (dIsT OC (isT T) ha) :=
  (pe_callB (he := h1) call_isi hi hm PyProof.Rows.boot_isinstance (pa_cons h (pa_cons (pe_bltn hg hmx hb (v := .ty T) rfl hn1 hd1) pa_nil) h1)).imp fun σ H Q ⟨g0, H0, g, ρ, τ, q, ex, st, h, hx, kk⟩ => by
    refine ⟨g0, H0, g, ρ, τ, _, ex, st, h, hx, fun x ρ1 v g1 H1 h1 l1 st1 r1 => ?_⟩
    obtain ⟨d, e, hk, h2⟩ := h1
    have fin : Q (.bl (isT T d)) H1 := kk _ ρ1 _ g1 H1 h2 l1 st1 (.bl _)
    rcases sh_ty (K := X.K) hK.symm st1.base.good (r1.sh st1 e) hO hk with ⟨C, fs, rfl, hC, ty⟩ | ⟨hd, ty⟩
    · exact ⟨v, .ty T, _, _, _, rfl, .ty T, ty, (hO C hC).no T hT, fin⟩
    · exact ⟨v, .ty T, _, _, _, rfl, .ty T, ty, isT_kit hT hd (fun z => by subst z; cases hk), fin⟩
theorem pd_isC {OC : List Addr} {C : Addr} {x : Str} {p p2 : Pos} (hK : X.K = c.K) (hO : ∀ C ∈ OC, InsOk X.K C) (hOC : OC = [C]) (h : PH X c E a ha) (hi : Gl X "isinstance") (hm : X.mg "isinstance" = none) (hg : Gl X x) (hmx : X.mg x = some (.ref C))
    (hd1 : (x == ("__debug__" : Str)) = false := by decide) (h1 : starEach (a :: [.Name x p2]) X.env = (false, eval a X.env) :: starEach [.Name x p2] X.env := by rfl) :
    PD X c E (.Call (.Name "isinstance" p) [a, .Name x p2] [] pos) (dIsT OC (isC C) ha) :=
  (pe_callB (he := h1) call_isi hi hm PyProof.Rows.boot_isinstance (pa_cons h (pa_cons (pe_glob hg hmx (v := .ref C) rfl hd1) pa_nil) h1)).imp fun σ H Q ⟨g0, H0, g, ρ, τ, q, ex, st, h, hx, kk⟩ => by
    refine ⟨g0, H0, g, ρ, τ, _, ex, st, h, hx, fun x ρ1 v g1 H1 h1 l1 st1 r1 => ?_⟩
    obtain ⟨d, e, hk, h2⟩ := h1
    have fin : Q (.bl (isC C d)) H1 := kk _ ρ1 _ g1 H1 h2 l1 st1 (.bl _)
    subst hOC
    rcases sh_ty (K := X.K) hK.symm st1.base.good (r1.sh st1 e) hO hk with ⟨C', fs, rfl, hC, ty⟩ | ⟨hd, ty⟩
    · have : C' = C := by simpa using hC
      subst this
      refine ⟨v, .ref C', _, _, true, rfl, .own C', ty, ?_, by simpa [isC] using fin⟩
      unfold PySem.W.kitOne
      rw [if_pos (beq_self_eq_true _)]
    · refine ⟨v, .ref C, _, _, false, rfl, .own C, ty, (hO C (by simp)).of _ ?_, ?_⟩
      · cases d <;> first | exact absurd rfl (hd _ _) | (cases hk; done) | (simp [tyD]; done)
      · have : isC C d = false := by cases d <;> first | rfl | exact absurd rfl (hd _ _)
        rw [this] at fin
        exact fin
/-- isinstance(e, (T, U)) -/
theorem pd_isTs {OC : List Addr} {T U : String} {x y : Str} {p p2 p3 p4 : Pos} {kt : Nat} (hK : X.K = c.K) (hO : ∀ C ∈ OC, InsOk X.K C) (hT : T ∈ (["int", "bool", "tuple", "list", "str", "dict"] : List String)) (hU : U ∈ (["int", "bool", "tuple", "list", "str", "dict"] : List String)) (h : PH X c E a ha)
    (hi : Gl X "isinstance") (hm : X.mg "isinstance" = none) (hg : Gl X x) (hmx : X.mg x = none) (hb : bootBuiltins x = some (.type T)) (hg2 : Gl X y) (hmy : X.mg y = none) (hb2 : bootBuiltins y = some (.type U))
    (hn1 : x ≠ "__name__" := by decide) (hd1 : (x == ("__debug__" : Str)) = false := by decide) (hn2 : y ≠ "__name__" := by decide) (hd2 : (y == ("__debug__" : Str)) = false := by decide)
    (h1 : starEach (a :: [.Tuple [.Name x p2, .Name y p3] kt p4]) X.env = (false, eval a X.env) :: starEach [.Tuple [.Name x p2, .Name y p3] kt p4] X.env := by rfl) :
    PD X c E (.Call (.Name "isinstance" p) [a, .Tuple [.Name x p2, .Name y p3] kt p4] [] pos) (dIsT OC (fun d => isT T d || isT U d) ha) :=
  (pe_callB (he := h1) call_isiT hi hm PyProof.Rows.boot_isinstance (pa_cons h (pa_cons (pe_tup (pa_cons (pe_bltn hg hmx hb (v := .ty T) rfl hn1 hd1) (pa_cons (pe_bltn hg2 hmy hb2 (v := .ty U) rfl hn2 hd2) pa_nil))) pa_nil) h1)).imp fun σ H Q ⟨g0, H0, g, ρ, τ, q, ex, st, h, hx, kk⟩ => by
    refine ⟨g0, H0, g, ρ, τ, _, ex, st, h, hx, fun x ρ1 v g1 H1 h1 l1 st1 r1 => ⟨by show 2 ≤ sizeLine; decide, fun tp htp => ?_⟩⟩
    obtain ⟨d, e, hk, h2⟩ := h1
    have bb := st1.base.good.alloc (o := .tup [.ty T, .ty U]) htp (fun _ => nofun)
    have st2 := st1.step bb
    have fin : Q (.bl (isT T d || isT U d)) (upd H1 tp (.tup [.ty T, .ty U])) := kk _ ρ1 _ _ _ h2 (l1.trans bb.le) st2 (.bl _)
    have any : ∀ {t : Value} {b1 b2 : Bool}, PySem.W.kitOne X.K t (.type T) = some b1 → PySem.W.kitOne X.K t (.type U) = some b2 → PySem.W.kitAny X.K t [.type T, .type U] = some (b1 || b2) := fun {t b1 b2} e1 e2 =>
      kitAny_cons e1 (fun z => kitAny_cons e2 (fun z2 => by rw [z, z2]; exact kitAny_nil) (fun z2 => by rw [z2, Bool.or_true])) (fun z => by rw [z, Bool.true_or])
    rcases sh_ty (K := X.K) hK.symm st2.base.good ((r1.mono bb.le).sh st2 e) hO hk with ⟨C, fs, rfl, hC, ty⟩ | ⟨hd, ty⟩
    · exact ⟨v, tp, _, _, _, _, rfl, upd_same, .cons (.ty T) (.cons (.ty U) .nil), ty, any ((hO C hC).no T hT) ((hO C hC).no U hU), fin⟩
    · exact ⟨v, tp, _, _, _, _, rfl, upd_same, .cons (.ty T) (.cons (.ty U) .nil), ty, any (isT_kit hT hd (fun z => by subst z; cases hk)) (isT_kit hU hd (fun z => by subst z; cases hk)), fin⟩
end
end D7
namespace D7
open PySem PySem.Spec PyProof.Rows L2
/-- C(v) makes an error whose field f is v -/
def MakesE (P : Program) (w : World) (K : PySem.W.Frag) (mg : Str → Option Value) (C : Addr) (f : Str) : Prop :=
  ∀ (A : Around) (s : Shared) (v : Value) (R : Result → Shared → Prop), K.In s.heap → s.heap.Ns mainGlobals mg → (∃ mb, s.heap.Ns builtinsNs mb ∧ ∀ x : Str, x ≠ "__name__" → mb x = bootBuiltins x) → s.heap.NoLimit → Room 2 A → D7X.FmtV s.heap v →
    (∀ h' tk e d, D7X.OwnMade s.heap h' e C d (fun y => if y = f then some v else none) → R (.ok (.ret (.ref e))) { s with heap := h', toks := tk }) → codeAny (model P w) A (.call (.ref C) ⟨[v], []⟩) R s
theorem makesE1 {P : Program} {w : World} {K : PySem.W.Frag} {mg : Str → Option Value} {C fI cc cda : Addr} {qual : Str} {args : Arguments} {scope : Scope} {txt px f : Str} {j1 : Nat} {p0 p1 p2 p3 p4 q1 q2 q3 q4 r1 r2 r3 r4 : Pos} {ar2 : Option Expr} {ar3 : Pos}
    (T : D7X.ExK P K C fI cc cda qual args [D7X.sSup (.JoinedStr [.Constant (.str txt) j1 q1, .FormattedValue (.Name px q2) (-1) none q3] q4) p0 p1 p2 p3 p4, D7X.sKeep f px r1 r2 r3 r4] scope)
    (htop : (P.main.scope.names.lookup ("super" : Str)).isSome = false) (hms : mg "super" = none)
    (hks : scope.names.lookup ("super" : Str) = some .globalImplicit) (hkc : scope.names.lookup ("__class__" : Str) = some .free) (hka : scope.names.lookup ("self" : Str) = some .local) (hkp : scope.names.lookup px = some .local) (hcell : ∀ y ∈ scope.names, y.2 ≠ .cell)
    (hk : scope.kind = .function) (hco : scope.isCoroutine = false) (hgn : scope.isGenerator = false) (har : (args.posonlyargs ++ args.args).head? = some ⟨"self", ar2, ar3⟩) (hdb : (px == ("__debug__" : Str)) = false) (hpx : (px == ("self" : Str)) = false) (ht : txt.length ≤ 1000) (hno : PySem.W.findIn K (.ref C) f = some none)
    (hbind : ∀ (x : Addr) (v : Value) (kV doc pm : Value) (an : Option Addr) (ct : Value), bindArgs (PySem.W.fnX "__init__" qual args [D7X.sSup (.JoinedStr [.Constant (.str txt) j1 q1, .FormattedValue (.Name px q2) (-1) none q3] q4) p0 p1 p2 p3 p4, D7X.sKeep f px r1 r2 r3 r4] scope [("__class__", cc)] .none kV doc pm an (.ref cda) ct) ⟨[.ref x, v], []⟩ = pure [(("self" : Str), .ref x), (px, v)])
    (hl : (p2.endLine == p3.line) = true) : MakesE P w K mg C f := by
  intro A s v R X hG ⟨mb, hB, hb⟩ lim hr fv k
  have hmb : mb "super" = some (.type "super") := (hb "super" (by decide)).trans (by kernel_rfl)
  refine D7X.own_made T X (by show 1 ≤ sizeLine; decide) (fun A1 x t0 s' R1 kp hx _ hn kr e1 e2 e3 e4 hr1 => ?_) hr k
  obtain ⟨hp, g, d, t, os⟩ := s'
  exact D7X.init1 T htop hms hmb (X.keeps kp) (lim.keeps kp) (hG.keeps kp) (hB.keeps kp) hx hn hr1 hks hkc hka hkp hcell hk hco hgn har hdb hpx ht hno (hbind x v) (D7X.hcall_of hl (fun _ => rfl)) (fv.keeps kp) kr
/-- what an error may carry -/
def fmtD : D → Bool
  | .str x => decide (x.length ≤ 1000)
  | .int i => decide (i.natAbs < 2 ^ 64)
  | .tup ds => match asInts ds with
    | some ns => decide (ns.length ≤ 1000) && ns.all fun i => decide (i.natAbs < 2 ^ 64)
    | none => false
  | _ => false
section
variable {X : Cx} {c : Cfg} {E : XK} {a : Expr} {pos : Pos}
theorem fmt_of {pins : List (Addr × Obj)} {s : Shared} {σ : L2.St} {H : Hp} {g : Gh} {v : V} {u : Value} {d : D} (hK : X.K = c.K) (I : Inv X pins σ H s) (b : Good c g H) (r : Rep c.K g v d) (ru : RelV v u) (f : fmtD d = true) : D7X.FmtV s.heap u := by
  cases r with
  | str x => obtain ⟨t, rfl⟩ := ru; exact .str (of_decide_eq_true f)
  | int i => obtain ⟨t, rfl⟩ := ru; exact .int (of_decide_eq_true f)
  | tup h r =>
    cases ru
    rename_i ds0
    cases q : asInts ds0 with
    | none => simp [fmtD, q] at f
    | some ns =>
        have f : (match asInts ds0 with | some ns => decide (ns.length ≤ 1000) && ns.all fun i => decide (i.natAbs < 2 ^ 64) | none => false) = true := f
        rw [q] at f
        have f : (decide (ns.length ≤ 1000) && ns.all fun i => decide (i.natAbs < 2 ^ 64)) = true := f
        rw [Bool.and_eq_true, List.all_eq_true] at f
        obtain ⟨f1, f2⟩ := f
        have e := asInts_some q
        subst e
        have e2 := r.ints
        subst e2
        obtain ⟨its, rv, ⟨o, ho, hc, n, hd⟩, hz⟩ := I.tuple (by rw [hK]; exact b.sqT h)
        exact .tup ho hc hd (by simpa using rv.ints) (fun i hi => of_decide_eq_true (f2 i hi)) (of_decide_eq_true f1)
  | _ => cases f
/-- C(e) -/
def tMkE (C : Addr) (f : Str) (Ok : V → Hp → Prop) (ta : TA) : L2.St → Hp → XK → Prop := fun σ H Q => ta σ H fun vs H1 => ∃ v, vs = [v] ∧ Ok v H1 ∧ ∀ d, H1 d = none → Q (.ref C) (some d) (upd H1 d (.xd [(f, v)]))
theorem relO_one {f : Str} {v : V} {u : Value} (r : RelV v u) (y : Str) : RelO (List.lookup y [(f, v)]) (if y = f then some u else none) := by
  by_cases e : y = f
  · subst e
    have : List.lookup y [(y, v)] = some v := by simp [List.lookup]
    rw [this, if_pos rfl]
    exact r
  · have h : (y == f) = false := by simpa using e
    have : List.lookup y [(f, v)] = none := by simp [List.lookup, h]
    rw [this, if_neg e]
    trivial
theorem pmkE {C : Addr} {f x : Str} {Ok : V → Hp → Prop} {ta : TA} {p : Pos} (M : MakesE X.prog X.w X.K X.mg C f) (hk : PySem.W.keepIn X.K (.ref C) = true) (exC : PySem.W.subIn X.K (.ref C) (.type "BaseException") = some true) (tyC : PySem.W.typeIn X.K (.ref C) = some (.type "type")) (hr : Room 2 X.A)
    (hOk : ∀ (pins : List (Addr × Obj)) (s : Shared) (σ : L2.St) (H : Hp) (v : V) (u : Value), Inv X pins σ H s → Ok v H → RelV v u → D7X.FmtV s.heap u)
    (ha : PA X [a] ta) (hg : Gl X x) (hm : X.mg x = some (.ref C)) (hdb : (x == ("__debug__" : Str)) = false := by decide)
    (he : starEach (a :: []) X.env = (false, eval a X.env) :: starEach [] X.env := by rfl) (hpl : (backTo pos (starEach [] X.env)).any (·.1) = false := by rfl) :
    PMk X (.Call (.Name x p) [a] [] pos) (tMkE C f Ok ta) := by
  intro pins s σ H Q I h
  refine wpAny_Call_Name_kw (ld_glob I hg hm ?_ hdb)
  refine PySem.W.callWith_K (h₀ := X.base) I.ok.mod.kin hk (thn (ha.run pos pins s σ H _ I h) fun us s1 hh => ?_) he hpl
  obtain ⟨vs, H1, I1, r1, v, ev, ok, q1⟩ := hh
  subst ev
  refine ⟨I1.kIn, ?_⟩
  obtain ⟨u, rfl, rv⟩ := vals1 r1
  show wpAny _ _ (call (.ref C) [u]) _ _ _
  have lim := I1.nolimit
  have hfv := hOk pins s1 σ H1 v u I1 ok rv
  have hG := I1.mod.glob.keeps I1.bk
  have hB : ∃ mb, s1.heap.Ns builtinsNs mb ∧ ∀ x : Str, x ≠ "__name__" → mb x = bootBuiltins x := by
    obtain ⟨mb, h1, h2⟩ := I1.mod.blt
    exact ⟨mb, h1.keeps I1.bk, h2⟩
  obtain ⟨hp, g, dr, tk, os⟩ := s1
  refine wpAny_call (M X.A _ u _ I1.kIn hG hB lim hr hfv fun h' tk' e d W => ?_)
  show MkP X pins σ Q (.ref e) ⟨h', g, dr, tk', os⟩
  obtain ⟨oe, fv, w1, w2, w3, w4, w5⟩ := W.obj
  obtain ⟨G, g1, g2⟩ := restrict h' fun b => decide (b ≠ e)
  have gS : ∀ b, b ≠ e → G.get? b = h'.get? b := fun b hb => g1 b (decide_eq_true hb)
  have gE : G.get? e = none := g2 e (by simp)
  have kp : ∀ b o, hp.get? b = some o → G.get? b = some o := fun b o z => (gS b (Nat.ne_of_lt (Nat.lt_of_lt_of_le (Heap.lt_size z) W.new))).trans (W.keep b o z)
  have ob : ObjOk X.prog X.w (upd H1 d (.xd [(f, v)])) G d (.xd [(f, v)]) := ⟨_, W.ns.at (fun o z => (gS d W.dne).trans z), relO_one rv⟩
  have J : Inv X pins σ (upd H1 d (.xd [(f, v)])) ⟨G, g, dr, tk', os⟩ := I1.laid (t' := tk') kp W.dbig ob
  refine ⟨e, oe, fv, ⟨G, g, dr, tk', os⟩, _, .ref C, some d, rfl, J, fun b o z => ?_, gE, w1, ⟨w2, w3⟩, w4, w5, ?_, rfl, I1.bare, raises_own exC tyC, q1 d (I1.hok.fresh W.dbig)⟩
  · by_cases hb : b = e
    · have z : G.get? b = some o := z
      rw [hb, gE] at z; cases z
    · exact (gS b hb).symm.trans z
  · rw [upd_ne (Ne.symm W.dne)]
    exact I1.hok.fresh W.new
/-- raise C(e) -/
def sRaise (C : Addr) (f : Str) (ta : DW) : DS := fun ρ _ ex => ta ρ (fun d _ => fmtD d = true ∧ ex C [(f, d)]) ex
theorem ds_raise {C : Addr} {f x : Str} {ta : DW} {p pos2 : Pos} (hK : X.K = c.K) (hc : X.calm = true) (tk : Takes X (fun cls d _ H => E cls d H)) (M : MakesE X.prog X.w X.K X.mg C f) (hk : PySem.W.keepIn X.K (.ref C) = true) (exC : PySem.W.subIn X.K (.ref C) (.type "BaseException") = some true)
    (tyC : PySem.W.typeIn X.K (.ref C) = some (.type "type")) (hr : Room 2 X.A) (ha : PD X c E a ta) (hg : Gl X x) (hm : X.mg x = some (.ref C)) (hdb : (x == ("__debug__" : Str)) = false := by decide)
    (he : starEach (a :: []) X.env = (false, eval a X.env) :: starEach [] X.env := by rfl) (hpl : (backTo pos (starEach [] X.env)).any (·.1) = false := by rfl) : PDS X c E (.Raise (some (.Call (.Name x p) [a] [] pos)) none pos2) (sRaise C f ta) :=
  (ps_raise hc tk (pmkE (Ok := fun v H => ∃ g d, Good c g H ∧ Rep c.K g v d ∧ fmtD d = true) M hk exC tyC hr (fun pins s σ H v u I ⟨g, d, b, r, f⟩ ru => fmt_of hK I b r ru f) (pa_cons ha pa_nil he) hg hm hdb he hpl)).imp fun N σ H ⟨g0, H0, g, ρ, τ, k, ex, st, h, hx, _⟩ => by
    refine ⟨g0, H0, g, ρ, τ, _, ex, st, h, hx, fun d ρ' v g' H' h2 l s r => ⟨v, rfl, ⟨g', d, s.base.good, r, h2.1⟩, fun dd hd => ?_⟩⟩
    have bb := s.base.good.grow (o := .xd [(f, v)]) hd
    exact hx C _ g' _ dd _ h2.2 (s.base.trans bb) upd_same rfl (.cons r .nil)
end
end D7
namespace D7
open PySem PySem.Spec PyProof.Rows L2
def putD (f : Str) (v : D) : List (Str × D) → List (Str × D)
  | [] => [(f, v)]
  | (g, x) :: r => if g = f then (g, v) :: r else (g, x) :: putD f v r
theorem put_rep {K : PySem.W.Frag} {g : Gh} {f : Str} {v : V} {d : D} (r : Rep K g v d) : ∀ {fs : List (Str × V)} {ds : List (Str × D)}, fs.map (·.1) = ds.map (·.1) → Reps K g (fs.map (·.2)) (ds.map (·.2)) →
    (putF f v fs).map (·.1) = (putD f d ds).map (·.1) ∧ Reps K g ((putF f v fs).map (·.2)) ((putD f d ds).map (·.2)) ∧ (putF f v fs).length = (putD f d ds).length
  | [], [], _, _ => ⟨rfl, .cons r .nil, rfl⟩
  | [], _ :: _, e, _ => by cases e
  | _ :: _, [], e, _ => by cases e
  | (n, x) :: fs, (n', y) :: ds, e, q => by
    simp only [List.map_cons, List.cons.injEq] at e
    obtain ⟨e1, e2⟩ := e
    subst e1
    cases q with | cons q1 q2 =>
    by_cases h : n = f
    · simp only [putF, putD, if_pos h, List.map_cons, e2, List.length_cons]
      have hl : fs.length = ds.length := by
        have := congrArg List.length e2
        simpa using this
      exact ⟨trivial, .cons r q2, by rw [hl]⟩
    · obtain ⟨h1, h2, h3⟩ := put_rep r e2 q2
      simp only [putF, putD, if_neg h, List.map_cons, List.length_cons]
      exact ⟨by rw [h1], .cons q1 h2, by rw [h3]⟩
/-- making an object: what the fields are in the end -/
abbrev DSi := List D → (List (Str × D) → Prop) → XD → Prop
def spInit (c : Cfg) (C : Addr) (ds : DSi) : Sp := fun vs H Q E => ∃ g Hb x dx args vs' q ex, vs = .ref x :: vs' ∧ H = upd (upd Hb dx (.own x)) x (.ins C dx []) ∧ Hb x = none ∧ Hb dx = none ∧ dx ≠ x ∧ Good c g Hb ∧ Reps c.K g vs' args ∧ ds args q ex ∧ ExcK c g Hb ex E ∧
  ∀ fs g' H' dx' fvs, q fs → Base c g Hb g' H' → H' x = some (.ins C dx' fvs) → Own Hb g' x → fvs.map (·.1) = fs.map (·.1) → Reps c.K g' (fvs.map (·.2)) (fs.map (·.2)) → Q .non H'
/-- the cells at the start: self, the arguments -/
def startI (x C : Addr) (n : Nat) (args : List D) : List Cell := .ob x C [] :: (args.map Cell.fz ++ List.replicate (n - (args.length + 1)) .off)
theorem StD.startI {c : Cfg} {g : Gh} {Hb : Hp} {C x dx : Addr} {N : List Str} {vs : List V} {args : List D} (b : Good c g Hb) (hx : Hb x = none) (hd : Hb dx = none) (ne : dx ≠ x) (r : Reps c.K g vs args) :
    StD c g Hb g (upd (upd Hb dx (.own x)) x (.ins C dx [])) (D7.startI x C N.length args) (L2.start N (.ref x :: vs)) [] := by
  have b1 := b.grow (o := .own x) hd
  have hx1 : upd Hb dx (.own x) x = none := by rw [upd_ne (Ne.symm ne)]; exact hx
  have b2 := b1.good.grow (o := .ins C dx []) hx1
  have b3 := b1.trans b2
  have ow : ∀ {a}, Hb a = none → Own Hb g a := fun {a} h => by
    refine ⟨h, ?_, fun z => ?_⟩
    · cases q : g.F a with
      | none => rfl
      | some u => rw [b.sub a u q] at h; cases h
    · obtain ⟨_, sa, ns, i, j, k, h2, _⟩ := b.row a z
      rw [h] at h2; cases h2
  have st := StD.start (N := N.drop 1) b3.good r
  have hl := r.length
  have tl : ∀ {i : Nat} {cl : Cell}, (D7.startI x C N.length args)[i + 1]? = some cl → (∃ d, cl = .fz d ∧ args[i]? = some d) ∨ cl = .off := fun {i cl} h => by
    unfold D7.startI at h
    rw [List.getElem?_cons_succ] at h
    by_cases lt : i < args.length
    · rw [List.getElem?_append_left (by simpa using lt), List.getElem?_map, List.getElem?_eq_getElem lt] at h
      cases h
      exact .inl ⟨_, rfl, List.getElem?_eq_getElem lt⟩
    · rw [List.getElem?_append_right (by simp; omega)] at h
      exact .inr (List.mem_replicate.mp (List.mem_of_getElem? h)).2
  have own0 : ∀ {i : Nat} {cl : Cell}, (D7.startI x C N.length args)[i]? = some cl → cl.own = true → i = 0 := fun {i cl} h o => by
    cases i with
    | zero => rfl
    | succ i =>
      rcases tl h with ⟨d, rfl, _⟩ | rfl <;> cases o
  refine ⟨b3, ?_, fun i cl hi => ?_, fun i j ci cj a hij hi hj oi oj => ?_, fun p hp => (by cases hp), List.nodup_nil⟩
  · unfold D7.startI L2.start
    simp only [List.length_append, List.length_map, List.length_replicate, List.length_cons]
    omega
  · cases i with
    | zero =>
      have : cl = .ob x C [] := by
        unfold D7.startI at hi
        rw [List.getElem?_cons_zero] at hi
        exact (Option.some.inj hi).symm
      subst this
      refine ⟨dx, [], ?_, upd_same, ?_, rfl, .nil, ow hx, ow hd⟩
      · unfold L2.start
        rw [List.map_cons, List.cons_append, List.getElem?_cons_zero]
      · rw [upd_ne ne, upd_same]
    | succ i =>
      rcases tl hi with ⟨d, rfl, h⟩ | rfl
      · obtain ⟨v, h1, h2⟩ := r.get h
        refine ⟨v, ?_, h2⟩
        unfold L2.start
        have lt : i < vs.length := (List.getElem?_eq_some_iff.mp h1).1
        rw [List.map_cons, List.cons_append, List.getElem?_cons_succ, List.getElem?_append_left (by simpa using lt), List.getElem?_map, h1]
        rfl
      · trivial
  · intro _ _
    exact hij ((own0 hi oi).trans (own0 hj oj).symm)
/-- THE RULE of an __init__ -/
theorem fn_I {P : Program} {w : World} {c : Cfg} {mg : Str → Option Value} {base : Heap} {x qual : Str} {params : Arguments} {body : List Stmt} {scope : Scope} {dvs : List V} {kws : List (Str × V)} {f C : Addr} {fd : FuncData} {N ps : List Str} {k : Nat} {ds : DSi} {ts : DS}
    (F : FunD c.K x qual params body scope dvs kws f fd) (S : FnScope N ps scope) (len : ∀ args q ex, ds args q ex → args.length + 1 = ps.length)
    (hbody : ∀ (A : Around) (outer : List Env) (s : Shared) (H : Hp) (E : XK), Room k (A.deeper (envOfC qual scope s.heap.objs.size f fd.code)) → PDSs (cxOf (L2.CX P w) P w c.K mg base N qual scope f fd.code A outer s H E) c E body ts)
    (law : ∀ (x : Addr) args q ex, ds args q ex → ts (startI x C N.length args) { nx := fun ρ => ∃ fs, ρ[0]? = some (.ob x C fs) ∧ q fs, rt := fun _ _ => False } ex) : FnOk P w c.K mg base (L2.CX P w) (k + 1) f fd ps (spInit c C ds) := by
  obtain ⟨oc, od, dV, kV, doc, pm, an, cdv, ct, osl, rfl, lk, hcd, _, _⟩ := F.ex
  refine fn_of lk hcd S (fun vs H Q E h => ?_) fun A outer s H vs Q E hr h => ?_
  · obtain ⟨g, Hb, x, dx, args, vs', q, ex, rfl, _, _, _, _, b, r, h, _⟩ := h
    rw [List.length_cons, r.length]
    exact len _ _ _ h
  · obtain ⟨g, Hb, x, dx, args, vs', q, ex, rfl, rfl, h1, h2, h3, b, r, h, hx, kk⟩ := h
    refine ⟨_, hbody A outer s _ E hr, g, Hb, g, _, [], _, ex, StD.startI b h1 h2 h3 r, law x _ _ _ h, hx, fun ρ' σ' g' H' ⟨fs, e, hq⟩ l st => ?_, fun _ _ _ _ _ _ h => h.elim, fun _ _ _ _ h => h.elim, fun _ _ _ _ h => h.elim⟩
    obtain ⟨dx', fvs, _, k1, _, k2, k3, k4, _⟩ := st.ok 0 _ e
    exact kk fs g' H' dx' fvs hq st.base k1 k4 k2 k3
/-- a new object is frozen -/
theorem Base.freeze {c : Cfg} {g g' : Gh} {H H' : Hp} {x : Addr} {o : HO} (b : Base c g H g' H') (hx : H' x = some o) (w : Own H g' x) (nt : ∀ ps, o ≠ .tbl ps) : Base c g H ⟨upd g'.F x o, g'.rw⟩ H' ∧ g'.le ⟨upd g'.F x o, g'.rw⟩ := by
  have fl : ∀ b u, g'.F b = some u → upd g'.F x o b = some u := fun b u e => by rw [upd_ne (ne_of_none e w.2.1)]; exact e
  have le : g'.le ⟨upd g'.F x o, g'.rw⟩ := ⟨fl, fun _ h => h⟩
  refine ⟨⟨b.le.trans le, fun y u h => ?_, fun y ps h => ?_, fun y u h => ?_, fun r h => ?_, b.rwn, b.there, b.keep, b.tab⟩, le⟩
  · have h : upd g'.F x o y = some u := h
    by_cases e : y = x
    · subst e; rw [upd_same] at h; cases h; exact hx
    · rw [upd_ne e] at h; exact b.sub _ _ h
  · have h : upd g'.F x o y = some (.tbl ps) := h
    by_cases e : y = x
    · subst e; rw [upd_same] at h; exact nt ps (Option.some.inj h)
    · rw [upd_ne e] at h; exact b.ntb _ _ h
  · have h : upd g'.F x o y = some u := h
    by_cases e : y = x
    · subst e; exact .inr w.1
    · rw [upd_ne e] at h; exact b.fr _ _ h
  · have hr : r ≠ x := fun e => w.2.2 (by rw [← e]; exact h)
    obtain ⟨h1, sa, ns, i, j, k, h2, h3, h4⟩ := b.row r h
    exact ⟨by show upd g'.F x o r = none; rw [upd_ne hr]; exact h1, sa, ns, i, j, k, h2, sqL_mono (fl sa) h3, h4⟩
section
variable {X : Cx} {c : Cfg} {E : XK} {a b : Expr} {es : List Expr} {pos : Pos} {ta tb : DW} {ha hb : DH}
/-- C(..) -/
def dMake (C : Addr) (ds : DSi) (dd : List D) (t : DA) : DW := fun ρ q ex => t ρ (fun args ρ1 => ds (args ++ dd) (fun fs => q (.obj C fs) ρ1) ex) ex
variable {k : Nat} {f C : Addr} {fd : FuncData} {ps : List Str} {dvs : List V} {dsv : List Value} {x : Str} {p : Pos} {ds : DSi} {dd : List D} {t : DA}
theorem pd_make (M : Mk X.K C f) (F : FnOk X.prog X.w X.K X.mg X.base (L2.CX X.prog X.w) k f fd ps (spInit c C ds)) (hr : Room (k + 1) X.A) (hg : Gl X x) (hm : X.mg x = some (.ref C)) (hb : Binds X.K fd ps dsv) (hv : Vals dvs dsv) (hd : ∀ g, Reps c.K g dvs dd) (hx : Passes (L2.CX X.prog X.w) X E)
    (ha : PDA X c E (a :: es) t) (hdb : (x == ("__debug__" : Str)) = false := by decide) (he : starEach (a :: es) X.env = (false, eval a X.env) :: starEach es X.env := by rfl) (hpl : (backTo pos (starEach es X.env)).any (·.1) = false := by rfl) :
    PD X c E (.Call (.Name x p) (a :: es) [] pos) (dMake C ds dd t) := (pe_make M F hr hg hm hb hv hx ha hdb he hpl).imp fun σ H Q ⟨g0, H0, g, ρ, τ, q, ex, st, h, hx, kk⟩ => by
  refine ⟨g0, H0, g, ρ, τ, _, ex, st, h, hx, fun args ρ1 vs g1 H1 h1 l1 st1 r1 x dx hx1 hd1 ne => ?_⟩
  refine ⟨g1, H1, x, dx, args ++ dd, _, _, ex, rfl, rfl, hx1, hd1, ne, st1.base.good, r1.append (hd g1), h1, fun C fs g' H' dd xfs e b => hx C fs g' H' dd xfs e (st1.base.trans b), fun fs g' H' dx' fvs hq b k1 k4 k2 k3 => ⟨rfl, ?_⟩⟩
  obtain ⟨b2, l2⟩ := b.freeze k1 k4 (fun _ => nofun)
  exact kk (.obj C fs) ρ1 _ _ H' hq ((l1.trans b.le).trans l2) (st1.step b2) (.obj upd_same k2 (k3.mono l2))
/-- self.f = e -/
def sSetF (i : Nat) (C : Addr) (f : Str) (td : DW) : DS := fun ρ k ex => td ρ (fun d ρ1 => ∃ y fs, ρ1[i]? = some (.ob y C fs) ∧ fs.length < 1000 ∧ k.nx (ρ1.set i (.ob y C (putD f d fs)))) ex
theorem StD.obUpd {g0 g : Gh} {H0 H : Hp} {ρ : List Cell} {σ : L2.St} {τ : List (Addr × HO)} {i : Nat} {y C dx : Addr} {fs fs' : List (Str × D)} {fvs fvs' : List (Str × V)} (st : StD c g0 H0 g H ρ σ τ) (hi : ρ[i]? = some (.ob y C fs)) (hy : H y = some (.ins C dx fvs)) (hdx : H dx = some (.own y))
    (k1 : fvs'.map (·.1) = fs'.map (·.1)) (k2 : Reps c.K g (fvs'.map (·.2)) (fs'.map (·.2))) : StD c g0 H0 g (upd H y (.ins C dx fvs')) (ρ.set i (.ob y C fs')) σ τ := by
  obtain ⟨dx0, fv0, e, h1, h2, _, _, w, w2⟩ := st.ok i _ hi
  have lt : i < ρ.length := (List.getElem?_eq_some_iff.mp hi).1
  have nd : dx ≠ y := fun z => by rw [z, hy] at hdx; cases hdx
  have ex : ∀ b, b ≠ y → upd H y (.ins C dx fvs') b = H b := fun b e => upd_ne e
  have b := st.base
  have np : ∀ {b u}, g.F b = some u → b ≠ y := fun {b u} e z => by rw [z, w.2.1] at e; cases e
  have g1 : ∀ {m : Nat} {cm : Cell}, (ρ.set i (.ob y C fs'))[m]? = some cm → i ≠ m → ρ[m]? = some cm := fun {m cm} hm n => by rwa [List.getElem?_set_ne n] at hm
  have g2 : ∀ {m : Nat} {cm : Cell}, (ρ.set i (.ob y C fs'))[m]? = some cm → ∃ c0, ρ[m]? = some c0 ∧ (cm.own = true → c0.own = true) := fun {m cm} hm => by
    by_cases e : i = m
    · subst e; exact ⟨_, hi, fun _ => rfl⟩
    · exact ⟨cm, g1 hm e, id⟩
  refine ⟨⟨b.le, fun a u h => by rw [ex a (np h)]; exact b.sub a u h, b.ntb, b.fr, fun r h => ?_, b.rwn, fun a h => ?_, fun a u h k t => ?_, ⟨fun q hq => ?_, fun P hP => ?_⟩⟩, by rw [List.length_set]; exact st.len, fun j cl hj => ?_, fun j m cj cm a hjm hj hm oj om sj sm => ?_, fun q hq => ?_, st.pnd⟩
  · obtain ⟨h1, sa, ns, i, j, k, h2, h3, h4⟩ := b.row r h
    exact ⟨h1, sa, ns, i, j, k, by rw [ex r (fun z => w.2.2 (by rw [← z]; exact h))]; exact h2, h3, h4⟩
  · by_cases e : a = y
    · rw [e, upd_same]; exact fun z => nomatch z
    · rw [ex a e]; exact b.there a h
  · have : a ≠ y := fun z => by rw [z, w.1] at h; cases h
    rw [ex a this]; exact b.keep a u h k t
  · obtain ⟨ps, a1, a2, a3⟩ := b.tab.1 q hq
    have ne1 : q.1 ≠ y := fun z => by rw [z, hy] at a1; cases a1
    refine ⟨ps, by rw [ex _ ne1]; exact a1, a2, fun pos cv hc => ?_⟩
    obtain ⟨c0, e1, e2⟩ := a3 pos cv hc
    refine ⟨c0, e1, ?_⟩
    have ne2 : c0 ≠ y := fun z => by
      rw [z, hy] at e2
      have e2 := Option.some.inj e2
      unfold LamX.CodeO at e2
      cases e2
    rw [ex _ ne2]; exact e2
  · obtain ⟨ps, a1, a2⟩ := b.tab.2 P hP
    have ne1 : P ≠ y := fun z => by rw [z, hy] at a1; cases a1
    exact ⟨ps, by rw [ex _ ne1]; exact a1, a2⟩
  · by_cases e2 : i = j
    · subst e2
      rw [List.getElem?_set_self lt] at hj
      cases hj
      rw [hy] at h1
      cases h1
      exact ⟨dx, fvs', e, upd_same, by rw [ex _ nd]; exact hdx, k1, k2, w, w2⟩
    · have hj2 := g1 hj e2
      have z := st.ok j cl hj2
      have na : ∀ b, cl.own = true → σ[j]? = some (some (.ref b)) → b ≠ y := fun b ho sj z => by
        subst z
        exact st.ne i j _ cl b e2 hi hj2 rfl ho e sj
      cases cl with
      | off => trivial
      | scr ns => exact z
      | fz x => exact z
      | ow ds => obtain ⟨b, xs, e, h1, r, w⟩ := z; exact ⟨b, xs, e, by rw [ex _ (na b rfl e)]; exact h1, r, w⟩
      | os S n => obtain ⟨b, e, h1, w⟩ := z; exact ⟨b, e, by rw [ex _ (na b rfl e)]; exact h1, w⟩
      | od ds => obtain ⟨b, kvs, e, h1, k, r, w⟩ := z; exact ⟨b, kvs, e, by rw [ex _ (na b rfl e)]; exact h1, k, r, w⟩
      | ot ds => obtain ⟨b, kvs, e, h1, k, r, w⟩ := z; exact ⟨b, kvs, e, by rw [ex _ (na b rfl e)]; exact h1, k, r, w⟩
      | ob b C2 ds =>
        obtain ⟨dx2, fs2, e, h3, h4, k, r, w, w2⟩ := z
        refine ⟨dx2, fs2, e, by rw [ex _ (na b rfl e)]; exact h3, ?_, k, r, w, w2⟩
        rw [ex dx2 (fun z => by rw [z, hy] at h4; cases h4)]
        exact h4
  · obtain ⟨c1, d1, o1⟩ := g2 hj
    obtain ⟨c2, d2, o2⟩ := g2 hm
    exact st.ne j m c1 c2 a hjm d1 d2 (o1 oj) (o2 om) sj sm
  · obtain ⟨q1, q2, q3, q4⟩ := st.pin q hq
    have nq : q.1 ≠ y := fun z => q4 i _ hi rfl (by rw [z]; exact e)
    refine ⟨by rw [ex _ nq]; exact q1, q2, q3, fun m cm hm om => ?_⟩
    obtain ⟨c1, d1, o1⟩ := g2 hm
    exact q4 m c1 d1 (o1 om)
theorem ds_setF {i : Nat} {f : Str} {pos' : Pos} (hK : X.K = c.K) (cl : Cls c.K C) (na : NoAttr c.K C f) (ho : PE X b (tVar i)) (h : PD X c E a ta) (hs : swapsWith a (some (.Attribute b f pos')) pos.line X.env = pure false := by rfl) : PDS X c E (.Assign [.Attribute b f pos'] a pos) (sSetF i C f ta) :=
  (ps_fld ho h hs).imp fun N σ H ⟨g0, H0, g, ρ, τ, k, ex, st, h, hx, n1, n2, n3, n4⟩ => by
    refine ⟨g0, H0, g, ρ, τ, _, ex, st, h, hx, fun d ρ1 v g1 H1 h1 l1 st1 r1 => ?_⟩
    obtain ⟨y, fs, e1, e2, h2⟩ := h1
    obtain ⟨dx, fvs, e, k1, k2, k3, k4, w, w2⟩ := st1.ok i _ e1
    obtain ⟨p1, p2, p3⟩ := put_rep (f := f) r1 k3 k4
    have hl : fvs.length = fs.length := by
      have := congrArg List.length k3
      simpa using this
    rw [hK]
    exact ⟨.ref y, e, y, C, dx, fvs, rfl, k1, cl, na, by omega, n1 _ σ g1 _ h2 l1 (st1.obUpd e1 k1 k2 p1 p2)⟩
end
end D7
/-! try with several clauses «except C as e»; what a suite asks of the error it holds -/
namespace D7
open PySem PySem.Spec PyProof.Rows L2
/-- the name of the clause is forgotten behind its suite -/
abbrev offE (i : Nat) (D : Ends) : Ends := { nx := fun t K => D.nx (t.set i none) K, rt := D.rt, bk := fun t K => D.bk (t.set i none) K, ct := fun t K => D.ct (t.set i none) K }
abbrev Cls4 := List (Value × (Addr → Value → Option Addr → TS))
def wMA (K : PySem.W.Frag) (m i : Nat) (Wo : WX) (D : Ends) : Cls4 → WX
  | [] => Wo
  | p :: r => fun cl dd t J => ∃ b, PySem.W.exmOne K cl p.1 = some b ∧ (b = true → ∀ e, J e = none → t.length = m → p.2 e cl dd (offE i D) (t.set i (some (.ref e))) J) ∧ (b = false → wMA K m i Wo D r cl dd t J)
inductive HdsA (X : Cx) (n : Str) : List ExceptHandler → Cls4 → Prop
  | nil : HdsA X n [] []
  | cons {x : Str} {c : Value} {ts : Addr → Value → Option Addr → TS} {st : Stmt} {sts : List Stmt} {p1 p2 : Pos} {hs : List ExceptHandler} {l : Cls4} (nm : Names X x c)
      (su : ∀ (e : Addr) (oe : Obj) (cl : Value) (dd : Option Addr) (pn : List (Addr × Obj)), Zc cl dd oe → (∃ vs, oe.data = .fields vs) → PSs (X.suite e ((e, oe) :: pn)) (st :: sts) (ts e cl dd)) (r : HdsA X n hs l) :
      HdsA X n (.ExceptHandler (some (.Name x p1)) (some n) (st :: sts) p2 :: hs) ((c, ts) :: l)
section
variable {X : Cx} {body : List Stmt} {hd0 : ExceptHandler} {hds : List ExceptHandler} {l : Cls4} {pos : Pos} {tb : WX → TS} {Wo : WX} {n : Str} {i : Nat}
theorem ps_tryA (eS : X.stack = X.env :: X.outer) (eF : X.env.frame = some X.env.locals) (nN : X.N.Nodup) (eI : X.N[i]? = some n) (eL : X.env.kindOf n = some .local) (tk : Takes X Wo)
    (hb : ∀ (W : WX) (pn : List (Addr × Obj)) (xe : Value → Shared → Prop), Takes (X.tr pn xe) W → PassesOwn (model X.prog X.w) X.A X.env xe → PSs (X.tr pn xe) body (tb W))
    (hh : HdsA X n (hd0 :: hds) l) : PS X (.Try body (hd0 :: hds) [] [] pos) (fun D t H => tb (wMA X.K X.N.length i Wo D l) D t H) := by
  refine ⟨fun pins s t H D I w0 => ?_⟩
  have okX := I.ok
  have frX : X.A.frames = some (X.env :: X.outer) := okX.frames.trans (congrArg some eS)
  refine wpAny_Try_except ?_
  refine wpAny_mono ((hb (wMA X.K X.N.length i Wo D l) (X.pn ++ pins) (fun e s₁ => wpAny (model X.prog X.w) X.A (noteFrame e X.env) (fun _ s₂ => wpAny (model X.prog X.w) X.A (setFlight e none) (fun _ s₃ =>
    wpAny (model X.prog X.w) X.A (handleBy e X.env (hd0 :: hds)) (SP X pins D) X.xe s₃) X.xe s₂) X.xe s₁) (fun u s' air => ?_) PassesOwn.looking).run [] s t H D (I.toTry _) w0) (fun f s1 q1 => ?_) (fun e s1 z => z)
  · obtain ⟨e, G, sI, pl, t', H', cl, dd, rfl, I', nG, upG, sky, ne, oE, aE, wE⟩ := air
    have J := I'.ofTry okX
    have skyX : Sky G (X.env :: X.outer) e (Zc cl dd) X.env.locals s'.heap := eS ▸ sky
    show wpAny (model X.prog X.w) X.A (noteFrame (.ref e) X.env) _ _ _
    refine Sky.land Zc.steady frX eF skyX fun hL fL uL => ?_
    have JL : Inv X pins t' H' { s' with heap := hL } := J.landed nG fL.1 (upG.trans uL) oE aE
    obtain ⟨ob, fs, gO, zO, dO⟩ := fL.there
    have eNot : e ∉ frs (X.env :: X.outer) := fun hm => by
      obtain ⟨_, ob', gO', no⟩ := fL.2.2.1.mem hm
      rw [gO] at gO'
      cases gO'
      exact no _ dO
    have eL1 : e ≠ X.env.locals := fun z => eNot (List.mem_filterMap.mpr ⟨X.env, List.mem_cons_self, eF.trans (congrArg some z.symm)⟩)
    have eF1 : e ∉ X.fs := fun hm => by
      obtain ⟨v, m1, m2⟩ := List.mem_filterMap.mp hm
      exact eNot (List.mem_filterMap.mpr ⟨v, List.mem_cons_of_mem _ m1, m2⟩)
    have SL := JL.suite gO dO ne eL1 eF1
    have walk : ∀ {hs' : List ExceptHandler} {l' : Cls4}, HdsA X n hs' l' → wMA X.K X.N.length i Wo D l' cl dd t' H' → wpAny (model X.prog X.w) X.A (handleBy (.ref e) X.env hs') (SP X pins D) X.xe { s' with heap := hL } := by
      intro hs' l' hk
      induction hk with
      | nil =>
        intro wN
        refine wpAny_handleBy_nil ?_
        obtain ⟨_, _, _, oq, vq, T, oT, tq, gq, zq, dq, d1, _⟩ := id fL
        unfold PySem.passOn
        refine wpAny_bind (wpAny_field gq dq d1 ?_)
        rw [if_neg (show ¬ ((Value.ref T == Value.none) = true) from by simp)]
        have up : wpAny (model X.prog X.w) X.A (setFlight (.ref e) X.env.frame) (fun _ s4 => wpAny (model X.prog X.w) X.A (throw (.ref e) : Sem Flow) (SP X pins D) X.xe s4) X.xe { s' with heap := hL } := by
          rw [eF]
          refine HandSPX.setFlight_upZ fL fun h4 f4 u4 => wpAny_throw (tk _ _ ?_)
          exact ⟨e, G, sI, pins, t', H', cl, dd, rfl, J, nG, (upG.trans uL).trans u4, .inr (.inr (eS.symm ▸ f4)), ne, oE, aE, wN⟩
        first
          | exact wpAny_bind (wpAny_pure (wpAny_bind up))
          | exact wpAny_bind up
      | @cons x c ts st sts p1 p2 hs2 l2 nm su r ih =>
        intro wN
        obtain ⟨b, e1, e2, e3⟩ := wN
        refine wpAny_handleBy_cons (codeAny_handlers_test ?_) (fun q => nomatch q)
        have ty : PySem.W.Looks (model X.prog X.w) hL (typeOf (.ref e)) cl := fun A Q E s k q => wpAny_typeOf_ref (k _ _ gO) (zO.1 ▸ q)
        have ex := PySem.W.exm_one (M := model X.prog X.w) (JL.kIn) ty e1
        have nameV : ∀ {Q : Value → Shared → Prop} {E : Value → Shared → Prop}, Q c { s' with heap := hL } → wpAny (model X.prog X.w) (X.A.mark (some (.ref e))) (eval (.Name x p1) X.env) Q E { s' with heap := hL } := fun {Q E} q => by
          obtain ⟨n1, n2, n3 | ⟨n3, n4, n5⟩⟩ := nm
          · exact ld_glob (X := X.suite e ((e, ob) :: (X.pn ++ pins))) SL n1 n3 q n2
          · exact ld_blt (X := X.suite e ((e, ob) :: (X.pn ++ pins))) SL n1 n3 n4 q n5 n2
        refine nameV (ex.here ?_)
        cases b with
        | false =>
          show wpAny _ X.A (handleBy (.ref e) X.env hs2) _ _ _
          exact ih (e3 rfl)
        | true =>
          refine codeAny_handlers_suite_as ?_
          refine HandSPX.lands_againZ fL fun h4 f4 u4 => ?_
          have J4 : Inv X pins t' H' { s' with heap := h4 } := J.landed nG f4.1 ((upG.trans uL).trans u4) oE aE
          obtain ⟨o4, fs4, g4, z4, d4⟩ := f4.there
          have S4 := J4.suite g4 d4 ne eL1 eF1
          refine store_ok (X := X.suite e ((e, o4) :: (X.pn ++ pins))) (v := .ref e) S4 nN eI (.inl eL) rfl (fun s5 S5 => ?_) (.inr eL)
          refine wpAny_mono ((su e o4 cl dd (X.pn ++ pins) z4 ⟨_, d4⟩).run [] s5 _ H' _ S5 (e2 rfl e ne J.len)) (fun f s6 q6 => ?_) (fun _ _ z => False.elim z)
          have done : ∀ {t6 : L2.St} {H6 : Hp} {Q : Shared → Prop}, Inv (X.suite e ((e, o4) :: (X.pn ++ pins))) [] t6 H6 s6 → (∀ s7, Inv X pins (t6.set i none) H6 s7 → Q s7) →
              wpAny (model X.prog X.w) X.A (do bindName X.env n .none; unbindBehindTheSuite X.env n p2) (fun _ s7 => Q s7) X.xe s6 := fun {t6 H6 Q} I6 k6 => gone_ok (I6.unsuite okX) nN eI eL k6
          cases f with
          | ret u => exact let ⟨v6, t6, H6, I6, r6, k6⟩ := q6; done I6 fun s7 I7 => ⟨_, _, _, I7, r6, k6⟩
          | next => exact let ⟨t6, H6, I6, k6⟩ := q6; done I6 fun s7 I7 => ⟨_, _, I7, k6⟩
          | brk => exact let ⟨t6, H6, I6, k6⟩ := q6; done I6 fun s7 I7 => ⟨_, _, I7, k6⟩
          | cont => exact let ⟨t6, H6, I6, k6⟩ := q6; done I6 fun s7 I7 => ⟨_, _, I7, k6⟩
    exact walk hh wE
  · cases f with
    | ret u => exact let ⟨v, t1, H1, I1, r, q⟩ := q1; ⟨v, t1, H1, I1.ofTry okX, r, q⟩
    | next => exact let ⟨t1, H1, I1, q⟩ := q1; wpAny_execs_nil ⟨t1, H1, I1.ofTry okX, q⟩
    | brk => exact let ⟨t1, H1, I1, q⟩ := q1; ⟨t1, H1, I1.ofTry okX, q⟩
    | cont => exact let ⟨t1, H1, I1, q⟩ := q1; ⟨t1, H1, I1.ofTry okX, q⟩
end
end D7
/-! what an except suite asks of an error with a dict of its own: isinstance, a field -/
namespace D7X
open PySem PySem.W PySem.Spec PySem.Calls PyProof.Rows
section
variable {prog : Program} {w : World} {A : Around} {E : Value → Shared → Prop} {s : Shared} {K : Frag} {e D : Addr} {oe : Obj} {od : Obj}
/-- e.__class__, where e has a dict -/
theorem cls_of_err {Q : Option Value → Shared → Prop} (C : L2.ExcC K D) (X : K.In s.heap) (I : InstAt s.heap e oe D (some od)) (h : Q (some (.ref D)) { s with toks := s.toks + 1 }) : wpAny (model prog w) A (getAttr? (.ref e) "__class__") Q E s := by
  have hfd : findObj K D (some od) "__class__" = some (.bind (.builtin "getset_descriptor.__get__") (.builtin "object.__class__")) := findObj_data (by obtain ⟨cd, hc, _⟩ := any_some C.hd; rw [hc]; rfl) C.ha C.hn C.ht
  obtain ⟨hp, g, d, t, os⟩ := s
  have T0 := I.type (M := model prog w)
  have T1 := looks_findIn (M := model prog w) X C.hg
  have T2 := looks_findIn (M := model prog w) X C.hk
  have T3 := looks_find (M := model prog w) X I hfd
  have sb : Looks (model prog w) hp (isInstance (.ref e) (.type "BaseException")) true := T0.andThen (looks_subIn X C.hs)
  have c2 : (Value.builtin "BaseException.__getattribute__" == Value.builtin "object.__getattribute__") = false := by decide +kernel
  have c1 : (onTheHeap (Value.ref D) && Value.builtin "BaseException.__getattribute__" == Value.builtin "object.__getattribute__") = false := by rw [c2] <;> rfl
  have c0 : (false && onTheHeap (Value.builtin "BaseException.__getattribute__")) = false := rfl
  unfold getAttr? getAttrBy? getAttrBy
  refine wpAny_bind (wpAny_mkText (wpAny_bind (wpAny_attempt (wpAny_holding (wpAny_bind (T0.at (wpAny_bind (T1.at ?_))))))))
  show wpAny _ _ (if (onTheHeap (Value.ref D) && Value.builtin "BaseException.__getattribute__" == Value.builtin "object.__getattribute__") = true then _ else _) _ _ _
  rw [c1, if_neg Bool.false_ne_true]
  unfold getAttrByItsOwn hookBefore
  refine wpAny_bind ?_
  rw [if_pos (show onTheHeap (Value.ref D) = true from rfl)]
  refine T2.at (wpAny_bind (wpAny_attempt (wpAny_holding ?_)))
  unfold callGetattribute
  rw [c0, if_neg Bool.false_ne_true]
  unfold boundAndCalled
  rw [PySem.F.excAttr_ValueError.ga.bind (.ref e)]
  refine wpAny_bind (wpAny_pure ?_)
  show wpAny _ _ (call (.builtin "BaseException.__getattribute__") [.ref e, .str "__class__" t]) _ _ _
  refine wpAny_call (codeAny_call_builtin PySem.F.excAttr_ValueError.ga.plain PySem.F.entry_bexc_ga ?_)
  refine @check_slot (model prog w) _ _ ⟨hp, g, d, t + 1, os⟩ "BaseException.__getattribute__" "BaseException" "__getattribute__" (.ref e) [.str "__class__" t] [] _ (by decide +kernel) (by decide +kernel) sb (PySem.F.args_bexc_ga (.ref e) (.str "__class__" t)) ?_
  unfold Builtin.«object.__getattribute__»
  refine wpAny_bind (wpAny_of_eq (a := ((Value.ref e : Value), [Value.str "__class__" t])) (by first | rfl | (simp only [slotArgs]; rfl)) ?_)
  refine wpAny_bind (wpAny_pure (wpAny_bind (T0.at (wpAny_bind (T3.at ?_)))))
  show wpAny _ _ (holding [Value.builtin "object.__class__"] (call (.builtin "getset_descriptor.__get__") [.builtin "object.__class__", .ref e, .ref D]) >>= ret) _ _ _
  refine wpAny_bind (wpAny_holding (wpAny_call (class_get (s := ⟨hp, g, d, t + 1, os⟩) (ox := oe) (od := some od) X I C.hm ?_)))
  refine wpAny_pure ?_
  show wpAny _ _ (handedOut (.ref D)) _ _ _
  rw [handedOut_of (v := .ref D) rfl]
  first
    | exact wpAny_pure (wpAny_pure h)
    | exact wpAny_pure h
    | exact wpAny_pure (wpAny_bind (wpAny_pure (wpAny_pure h)))
theorem err_kit (C : L2.ExcC K D) : KitX K (.ref e) (.ref D) (fun h => ∃ od, InstAt h e oe D (some od)) where
  ty := fun _ _ _ ⟨_, I⟩ => I.type
  it := fun M h X _ => by
    obtain ⟨cd, hc, _⟩ := any_some C.hd
    unfold clsIn at hc
    split at hc
    · rename_i c' d' cd' sl' ho
      intro A' Q' E' s' k q
      unfold isType loadHead
      exact wpAny_bind (wpAny_loadPart (k _ _ (X _ _ ho)) (wpAny_pure q))
    · cases hc
  ne := (handS_kitx_exc (x := e) (ox := oe) C.hg C.hk C.hs C.hd C.ha C.hn C.ht C.hm).ne
  ca := fun X ⟨_, I⟩ k => cls_of_err C X I k
end
end D7X
namespace D7
open PySem PySem.Spec PyProof.Rows L2
/-- isinstance(e, c), e the error the suite holds: its dict is at dd -/
def rIsX (K : PySem.W.Frag) (D e dd : Addr) : List V → Hp → VK → Prop := fun xs H Q => ∃ (c : V) (cv : Value) (b : Bool), xs = [.ref e, c] ∧ (∀ u, RelV c u → u = cv) ∧ PySem.W.kitOne K (.ref D) cv = some b ∧ (∃ fs, H dd = some (.xd fs)) ∧ Q (.bl b) H
section
variable {X : Cx} {e D dd : Addr} {oe : Obj} {pn : List (Addr × Obj)}
theorem err_at {pins : List (Addr × Obj)} {s : Shared} {σ : L2.St} {H : Hp} {fs : List (Str × V)} (hz : Zc (.ref D) (some dd) oe) (hf : ∃ vs, oe.data = .fields vs) (I : Inv (X.suite e ((e, oe) :: pn)) pins σ H s) (hd : H dd = some (.xd fs)) :
    ∃ od, PySem.W.InstAt s.heap e oe D (some od) ∧ ∀ f v, fs.lookup f = some v → ∃ u, PySem.W.lookIn f od = some (some u) ∧ RelV v u := by
  obtain ⟨hget, _⟩ := I.pin (e, oe) (List.mem_append.mpr (.inl List.mem_cons_self))
  obtain ⟨vs, hv⟩ := hf
  have hx : ObjOk X.prog X.w H s.heap dd (.xd fs) := I.hok dd _ hd
  obtain ⟨mA, hns, hr⟩ := hx
  obtain ⟨od, ho, hl⟩ := lookIn_ns hns
  refine ⟨od, ⟨hget, hz.1, by unfold PySem.W.notCls; rw [hv] <;> rfl, by rw [hz.2]; exact ho⟩, fun f v l => ?_⟩
  obtain ⟨u, hu, ru⟩ := RelO.some_of (v := v) (o := mA f) (by rw [← l]; exact hr f)
  exact ⟨u, by rw [hl, hu], ru⟩
theorem call_isX (C : ExcC X.K D) (hz : Zc (.ref D) (some dd) oe) (hf : ∃ vs, oe.data = .fields vs) : CallR (X.suite e ((e, oe) :: pn)) (.builtin "isinstance") (rIsX X.K D e dd) := by
  intro pins s σ H xs us Q I r h
  obtain ⟨c, cv, b, rfl, hcv, h1, ⟨fs, h2⟩, q⟩ := h
  obtain ⟨u1, u2, rfl, rx, rt⟩ := vals2 r
  cases rx
  have ec := hcv _ rt
  subst ec
  obtain ⟨od, J, _⟩ := err_at hz hf I h2
  exact PySem.W.kia_one (D7X.err_kit C) I.kIn ⟨od, J⟩ h1 (fun z => nomatch z) fun tk => ⟨.bl b, H, I.kept (t' := tk) fun _ _ z => z, rfl, q⟩
/-- e.f -/
def tXF (e dd : Addr) (f : Str) (te : TE) : TE := fun σ H Q => te σ H fun x H1 => x = .ref e ∧ ∃ fs v, H1 dd = some (.xd fs) ∧ fs.lookup f = some v ∧ Q v H1
theorem pe_xf {x : Expr} {te : TE} {f : Str} {pos : Pos} (C : ExcC X.K D) (na : PySem.W.findIn X.K (.ref D) f = some none) (hz : Zc (.ref D) (some dd) oe) (hf : ∃ vs, oe.data = .fields vs) (hx : PE (X.suite e ((e, oe) :: pn)) x te)
    (hb : attributeBase x f X.env (eval x X.env) = eval x X.env := by rfl) : PE (X.suite e ((e, oe) :: pn)) (.Attribute x f pos) (tXF e dd f te) := by
  refine ⟨fun pins s σ H Q I h => ?_⟩
  refine attr_of hb (thn (hx.run pins s σ H _ I h) fun u s1 hh => ?_)
  obtain ⟨y, H1, I1, ry, ey, fs, v, e1, e2, q⟩ := hh
  subst ey
  obtain rfl : u = Value.ref e := ry
  obtain ⟨od, J, look⟩ := err_at hz hf I1 e1
  obtain ⟨w, hw, rw'⟩ := look f v e2
  exact HandSPX.exc_get I1.kIn J C.hg C.hk C.hs (PySem.W.findObj_own C.hd na rfl hw) (handed_of rw') ⟨v, H1, I1.tok _, rw', q⟩
end
end D7
namespace D7
open PySem PySem.Spec PyProof.Rows L2
/-- all but the table at P stands -/
def LExt (P : Addr) (H H1 : Hp) : Prop := (∀ b, b ≠ P → H b ≠ none → H1 b = H b) ∧ (H P ≠ none → H1 P ≠ none)
section
variable {X : Cx} {pins : List (Addr × Obj)} {σ : L2.St} {H : Hp} {s : Shared}
/-- a lambda is made; what changes: its maker's table alone -/
theorem lam_made {T : List (Addr × Str)} {c P : Addr} {params : Arguments} {body : Expr} {scope : Scope} {pos : Pos} {E Q : Value → Shared → Prop} (I : Inv X pins σ H s) (TB : LamX.TabB X.base X.mg c P) (hcode : X.env.code = .ref c)
    (hm : (P, X.env.qual ++ "<lambda>") ∈ T) (hu : ∀ p ∈ T, p.1 = P → p.2 = X.env.qual ++ "<lambda>") (hT : LamX.Tabs T H) (hdef : defaultsOf params X.env = ([], [])) (hfree : ∀ y ∈ scope.names, y.2 = .free → ∃ c, X.env.cells.lookup y.1 = some c)
    (k : ∀ (f c' : Addr) (pm ctv : Value) (H1 : Hp) (s' : Shared), Inv X pins σ H1 s' → LExt P H H1 → LamX.Tabs T H1 →
      s'.heap.get? f = some (PySem.W.kla_obj "<lambda>" (X.env.qual ++ "<lambda>") params body scope (cloFrom X.env.cells scope.names []) pm c' ctv) → H1 f = none → f ∉ frs X.stack → H1 c' = some (LamX.CodeO c' (X.env.qual ++ "<lambda>")) → Q (.ref f) s') :
    wpAny (model X.prog X.w) X.A (eval (.Lambda params body scope pos) X.env) Q E s := by
  obtain ⟨ps, eP, tP, aP⟩ := hT _ hm
  have gP : s.heap.get? P = some { cls := .none, data := .fields ps } := I.hok P _ eP
  have far : ∀ v, s.heap.objs.size ≤ v → v ∉ frs X.stack := fun v hv z => by
    rcases List.mem_cons.mp (I.stkSub _ z) with e | e
    · exact absurd (Nat.lt_of_lt_of_le (e ▸ I.lt) hv) (Nat.lt_irrefl _)
    · exact I.nofs hv e
  refine PySem.W.kla_eval hdef ?_
  rcases hq : codeAmong pos ps.toList with _ | cv
  · refine PySem.W.kla_makeFunction (mg := X.mg) (c := c) (P := P) (ps := ps) (closure_ok hfree) I.ok.glob (I.mod.glob.keeps I.bk) hcode (TB.code.keeps I.bk) gP tP hq TB.gP (TB.bm.keeps I.bk) fun c' ctv h1 t1 kx k1 k2 kr kt => ?_
    obtain ⟨c2, oc, vs, tq, e2, g2, d2, v2⟩ := kr
    cases e2
    have big : s.heap.objs.size ≤ h1.objs.size := Nat.le_trans k1 (Nat.le_of_lt k2)
    have nC : H c' = none := I.hok.fresh k1
    have ePc : P ≠ c' := ne_of_none eP nC
    have J := LamX.inv_table (t' := t1) (more := #[rawInt pos.line, rawInt pos.col, .ref c']) (h' := h1.push (PySem.W.kla_obj "<lambda>" (X.env.qual ++ "<lambda>") params body scope (cloFrom X.env.cells scope.names []) ((X.mg "__name__").getD .none) c' ctv)) I eP
      (fun b o nb e => Heap.get?_push_of_some _ (kx b o nb e)) (Heap.get?_push_of_some _ kt) k1 ⟨oc, vs, tq, Heap.get?_push_of_some _ g2, d2, v2⟩
    have same : ∀ b, b ≠ P → H b ≠ none → upd (upd H P (.tbl (ps ++ #[rawInt pos.line, rawInt pos.col, .ref c']))) c' (LamX.CodeO c' (X.env.qual ++ "<lambda>")) b = H b := fun b n1 n2 => by
      have nbc : b ≠ c' := fun z => n2 (by rw [z]; exact nC)
      rw [upd_ne nbc, upd_ne n1]
    have atP : upd (upd H P (.tbl (ps ++ #[rawInt pos.line, rawInt pos.col, .ref c']))) c' (LamX.CodeO c' (X.env.qual ++ "<lambda>")) P = some (.tbl (ps ++ #[rawInt pos.line, rawInt pos.col, .ref c'])) := by rw [upd_ne ePc, upd_same]
    have nT : ∀ b o, H b = some o → (∀ q, o ≠ .tbl q) → b ≠ P := fun b o e n z => n ps (Option.some.inj (e.symm.trans (z ▸ eP)))
    refine k h1.objs.size c' ((X.mg "__name__").getD .none) ctv _ _ J ⟨same, fun _ z => by rw [atP] at z; cases z⟩ (fun p hp => ?_) (Heap.get?_push_size _ rfl) ?_ (far _ big) upd_same
    · by_cases hb : p.1 = P
      · rw [hu p hp hb, hb]
        have eL : (ps ++ #[rawInt pos.line, rawInt pos.col, .ref c']).toList = ps.toList ++ [rawInt pos.line, rawInt pos.col, .ref c'] := by simp
        refine ⟨_, atP, by rw [eL]; exact PySem.TriplesOk_snoc _ _ _ _ tP, fun p' v hv => ?_⟩
        rw [eL] at hv
        rcases LamX.among_app _ tP hv with z | z
        · obtain ⟨c0, e1, e2⟩ := aP p' v z
          exact ⟨c0, e1, (same c0 (nT _ _ e2 LamX.codeO_ne) (by rw [e2]; exact fun z => nomatch z)).trans e2⟩
        · exact ⟨c', z, upd_same⟩
      · obtain ⟨qs, b1, b2, b3⟩ := hT p hp
        refine ⟨qs, (same _ hb (by rw [b1]; exact fun z => nomatch z)).trans b1, b2, fun p' v hv => ?_⟩
        obtain ⟨c0, e1, e2⟩ := b3 p' v hv
        exact ⟨c0, e1, (same c0 (nT _ _ e2 LamX.codeO_ne) (by rw [e2]; exact fun z => nomatch z)).trans e2⟩
    · rw [upd_ne (Nat.ne_of_gt k2), upd_ne (Nat.ne_of_gt (Nat.lt_of_lt_of_le (Heap.lt_size gP) big))]
      exact I.hok.fresh big
  · obtain ⟨c', e1, e2⟩ := aP pos cv hq
    subst e1
    refine PySem.W.kla_makeFunctionHit (mg := X.mg) (c := c) (P := P) (ps := ps) (closure_ok hfree) I.ok.glob (I.mod.glob.keeps I.bk) hcode (TB.code.keeps I.bk) gP tP hq (TB.bm.keeps I.bk) fun ctv h1 t1 kx big => ?_
    have J : Inv X pins σ H { s with heap := h1.push (PySem.W.kla_obj "<lambda>" (X.env.qual ++ "<lambda>") params body scope (cloFrom X.env.cells scope.names []) ((X.mg "__name__").getD .none) c' ctv), toks := t1 } := I.kept fun b o e => Heap.get?_push_of_some _ (kx b o e)
    exact k h1.objs.size c' ((X.mg "__name__").getD .none) ctv H _ J ⟨fun _ _ _ => rfl, fun z => z⟩ hT (Heap.get?_push_size _ rfl) (I.hok.fresh big) (far _ big) e2
end
def tLamD (T : List (Addr × Str)) (P : Addr) (TT : (XK → Hp → VK → Prop) → Hp → VK → Prop) (t : XK → TE) : TE := fun σ H Q => LamX.Tabs T H ∧ ∀ H1, LExt P H H1 → LamX.Tabs T H1 → TT (fun E H' Q' => t E σ H' Q') H1 Q
section
variable {X : Cx}
/-- g(lambda: body) -/
theorem pe_lamD {T : List (Addr × Str)} {TT : (XK → Hp → VK → Prop) → Hp → VK → Prop} {x a : Str} {g c P : Addr} {k : Nat} {pg : Arguments} {bg : List Stmt} {sg : Scope} {fd : FuncData} {Ng : List Str}
    {params : Arguments} {body : Expr} {scope : Scope} {t : XK → TE} {p lpos pos : Pos} (F : FunD X.K x x pg bg sg [] [] g fd) (hg : Gl X x) (hm : X.mg x = some (.ref g)) (hb : L2.Binds X.K fd [a] []) (Sg : FnScope Ng [a] sg) (hNg : Ng[0]? = some a) (hva : Vis sg a)
    (hG : LamX.GivesTo X Ng x sg g fd.code bg a (X.env.qual ++ "<lambda>") TT)
    (TB : LamX.TabB X.base X.mg c P) (hcode : X.env.code = .ref c) (hmT : (P, X.env.qual ++ "<lambda>") ∈ T) (hu : ∀ p ∈ T, p.1 = P → p.2 = X.env.qual ++ "<lambda>") (hr : Room (k + 2) X.A) (L : LamX.LamS X.env.scope scope) (hdef : defaultsOf params X.env = ([], []))
    (hbind : ∀ (q : Str) (cl : List (Str × Addr)) (pm cv ctv : Value), bindArgs (PySem.W.kla_fn "<lambda>" q params body scope cl pm cv ctv) ⟨[], []⟩ = pure [])
    (hbody : ∀ (A : Around) (outer : List Env) (s : Shared) (H : Hp) (E : XK) (f c' : Addr), Room k (A.deeper (LamX.lamEnv X scope s.heap.objs.size f c')) → PE (LamX.lamCx X A outer s H E scope f c') body (t E))
    (hdb : (x == ("__debug__" : Str)) = false := by decide) (hd : (a == ("__debug__" : Str)) = false := by decide) (hcd : (a == ("__classdict__" : Str)) = false := by decide) :
    PE X (.Call (.Name x p) [.Lambda params body scope lpos] [] pos) (tLamD T P TT t) := by
  obtain ⟨oc, od, dV, kV, doc, pm, an, cdv, ct, osl, efd, lk, hcg, _, _⟩ := F.ex
  subst efd
  refine ⟨fun pins s σ H Q I w => ?_⟩
  obtain ⟨w1, w2⟩ := w
  refine wpAny_Call_Name_kw (ld_glob I hg hm ?_ hdb)
  refine PySem.W.callWith_K (h₀ := X.base) I.ok.mod.kin F.kp ?_ (by rfl) (by rfl)
  show wpAny _ _ (spliced ((false, eval (.Lambda params body scope lpos) X.env) :: backTo pos (starEach [] X.env))) _ _ s
  refine Calls.spliced_cons (lam_made I TB hcode hmT hu w1 hdef (L.has I.ok) fun f c' pm' ctv H1 s' J lx T1 gf nf ff gc => ?_)
  refine Calls.spliced_nil ⟨J.kIn, ?_⟩
  have run := LamX.run_ofS (CX := C8.CX0) (P := X.prog) (w := X.w) (mg := X.mg) (base := X.base) (k := k + 1) (A := X.A) (outer := X.stack) (s := s') (H := H1) (args := ⟨[.ref f], []⟩) (N := Ng) (ps := [a]) (us := [.ref f]) (vs := [.ref f]) (Q := Q) (E := C8.E0) lk hcg Sg hr J.env0 (hb s' [.ref f] J.kIn rfl) (.cons rfl .nil) rfl fun hr' => by
    obtain ⟨t', p1, p2⟩ := hG f c' s' H1 Q (fun E H' Q' => t E σ H' Q') (fun W pn xe E p1 p2 tk hW => LamX.pe_act (i := 0) J L gf nf ff (hbind _ _ _ _ _) tk hW hr' (fun A outer s H hr2 => hbody A outer s H E f c' hr2) hNg hva hd hcd) gc (w2 H1 lx T1)
    exact ⟨t', p1.nox, p2⟩
  refine wpAny_call (codeAny_mono run fun r s2 q => ?_)
  cases r with
  | error e => exact absurd q id
  | ok fl =>
    cases fl with
    | ret u => exact J.after q
    | next => exact absurd q id
    | brk => exact absurd q id
    | cont => exact absurd q id
end
/-! ### in data -/
def dnC : Cell → Cell
  | .fz d => .fz d
  | .scr ns => .scr ns
  | _ => .off
theorem StD.down {c : Cfg} {g0 g : Gh} {H0 H : Hp} {ρ : List Cell} {σ : L2.St} {τ : List (Addr × HO)} (st : StD c g0 H0 g H ρ σ τ) : StD c g H g H (ρ.map dnC) σ [] := by
  have no : ∀ {i : Nat} {cl : Cell}, (ρ.map dnC)[i]? = some cl → cl.own = false := fun {i cl} h => by
    rw [List.getElem?_map] at h
    obtain ⟨c0, _, rfl⟩ := Option.map_eq_some_iff.mp h
    cases c0 <;> rfl
  refine ⟨st.base.good, by rw [List.length_map]; exact st.len, fun i cl hi => ?_, fun i j ci cj a _ hi _ oi => ?_, fun p hp => (by cases hp), List.nodup_nil⟩
  · rw [List.getElem?_map] at hi
    obtain ⟨c0, h1, rfl⟩ := Option.map_eq_some_iff.mp hi
    have z := st.ok i c0 h1
    cases c0 <;> first | trivial | exact z
  · rw [no hi] at oi; cases oi
theorem LExt.base {c : Cfg} {g : Gh} {P : Addr} {H H1 : Hp} (b : Good c g H) (l : LExt P H H1) (t : ∃ ps, H P = some (.tbl ps)) (t1 : LamX.Tabs c.T H1) (hP : P ∉ c.G) : Base c g H g H1 := by
  obtain ⟨ps, hp⟩ := t
  have ne : ∀ b o, H b = some o → (∀ q, o ≠ .tbl q) → b ≠ P := fun b o e n z => n ps (Option.some.inj (e.symm.trans (z ▸ hp)))
  refine b.tabs (fun a o e n => (l.1 a (ne a o e n) (by rw [e]; exact fun z => nomatch z)).trans e) (fun a h => ?_) t1 fun Q hQ => ?_
  · by_cases e : a = P
    · rw [e]; exact l.2 (e ▸ h)
    · rw [l.1 a e h]; exact h
  · obtain ⟨qs, h1, h2⟩ := b.tab.2 Q hQ
    exact ⟨qs, (l.1 Q (fun z => hP (z ▸ hQ)) (by rw [h1]; exact fun z => nomatch z)).trans h1, h2⟩
end D7
namespace D7
open PySem PySem.Spec PyProof.Rows L2
/-- what the hearing def makes of a lambda's reading -/
def THeard (CB CR CT : Addr) : (XK → Hp → VK → Prop) → Hp → VK → Prop := fun tl H Q => tl (fun cls d H' => ∃ dd fs, d = some dd ∧ H' dd = some (.xd fs) ∧
    ((cls = .ref CB ∧ ∃ v, fs.lookup ("name" : Str) = some v ∧ ∀ p, H' p = none → Q (.ref p) (upd H' p (.tup [.str "bad", v, .bl true]))) ∨
    (cls = .ref CR ∧ ∃ v, fs.lookup ("cycle" : Str) = some v ∧ ∀ p, H' p = none → Q (.ref p) (upd H' p (.tup [.str "round", v, .bl true]))) ∨
    (cls = .ref CT ∧ ∃ v w, fs.lookup ("things" : Str) = some v ∧ fs.lookup ("most" : Str) = some w ∧ ∀ p, H' p = none → ∀ q, upd H' p (.tup [v, w]) q = none → Q (.ref q) (upd (upd H' p (.tup [v, w])) q (.tup [.str "many", .ref p, .bl true])))))
  H (fun _ H2 => ([] : List V).length ≤ sizeLine ∧ ∀ p, H2 p = none → Q (.ref p) (upd H2 p (.tup [])))
/-- _law_heard(lambda: ..) -/
def dHeard (CB CR CT : Addr) (td : DW) : DW := fun ρ q _ => td (ρ.map dnC) (fun _ _ => q (.tup []) ρ) (fun C fs =>
    (C = CB ∧ ∃ d, fs = [(("name" : Str), d)] ∧ q (.tup [.str "bad", d, .bl true]) ρ) ∨ (C = CR ∧ ∃ d, fs = [(("cycle" : Str), d)] ∧ q (.tup [.str "round", d, .bl true]) ρ) ∨
    (C = CT ∧ ∃ d e, fs = [(("things" : Str), d), (("most" : Str), e)] ∧ q (.tup [.str "many", .tup [d, e], .bl true]) ρ))
theorem lift_heard {c : Cfg} {E : XK} {CB CR CT P : Addr} {nm : Str} {td : DW} (hT : (P, nm) ∈ c.T) (hP : P ∉ c.G) {σ : L2.St} {H : Hp} {Q : VK} (h : liftE c E (dHeard CB CR CT td) σ H Q) : tLamD c.T P (THeard CB CR CT) (fun E' => liftE c E' td) σ H Q := by
  obtain ⟨g0, H0, g, ρ, τ, q, ex, st, h, hx, kk⟩ := h
  refine ⟨st.base.tab.1, fun H1 lx T1 => ?_⟩
  obtain ⟨ps, hps, _⟩ := st.base.tab.1 _ hT
  have st1 := st.step (lx.base st.base.good ⟨ps, hps⟩ T1 hP)
  refine ⟨g, H1, g, ρ.map dnC, [], _, _, st1.down, h, fun C fs g' H' dd xfs he b hd hk hr => ?_, fun d ρ' v g' H' h2 l s r => ⟨Nat.zero_le _, fun p hp => ?_⟩⟩
  · have st2 := st1.step b
    refine ⟨dd, xfs, rfl, hd, ?_⟩
    rcases he with ⟨rfl, d, rfl, hq⟩ | ⟨rfl, d, rfl, hq⟩ | ⟨rfl, d, e, rfl, hq⟩
    · obtain ⟨v, h1, h2⟩ := lookup_rep (y := "name") (d := d) hk hr (by rfl)
      refine .inl ⟨rfl, v, h1, fun p hp => ?_⟩
      have bb := st2.base.good.alloc (o := .tup [.str "bad", v, .bl true]) hp (fun _ => nofun)
      exact kk _ ρ _ _ _ hq (b.le.trans bb.le) (st2.step bb) (rep_tup st2.base.good hp (.cons (.str _) (.cons h2 (.cons (.bl _) .nil))))
    · obtain ⟨v, h1, h2⟩ := lookup_rep (y := "cycle") (d := d) hk hr (by rfl)
      refine .inr (.inl ⟨rfl, v, h1, fun p hp => ?_⟩)
      have bb := st2.base.good.alloc (o := .tup [.str "round", v, .bl true]) hp (fun _ => nofun)
      exact kk _ ρ _ _ _ hq (b.le.trans bb.le) (st2.step bb) (rep_tup st2.base.good hp (.cons (.str _) (.cons h2 (.cons (.bl _) .nil))))
    · obtain ⟨v, h1, h2⟩ := lookup_rep (y := "things") (d := d) hk hr (by rfl)
      obtain ⟨w, h3, h4⟩ := lookup_rep (y := "most") (d := e) hk hr (by rfl)
      refine .inr (.inr ⟨rfl, v, w, h1, h3, fun p hp p2 hp2 => ?_⟩)
      have bb := st2.base.good.alloc (o := .tup [v, w]) hp (fun _ => nofun)
      have st3 := st2.step bb
      have r3 := rep_tup st2.base.good hp (.cons h2 (.cons h4 .nil))
      have bb2 := st3.base.good.alloc (o := .tup [.str "many", .ref p, .bl true]) hp2 (fun _ => nofun)
      exact kk _ ρ _ _ _ hq ((b.le.trans bb.le).trans bb2.le) (st3.step bb2) (rep_tup st3.base.good hp2 (.cons (.str _) (.cons r3 (.cons (.bl _) .nil))))
  · have st2 := st1.step s.base
    have bb := st2.base.good.alloc (o := .tup []) hp (fun _ => nofun)
    exact kk _ ρ _ _ _ h2 (l.trans bb.le) (st2.step bb) (rep_tup st2.base.good hp .nil)
/-- the classes of the errors, as the hearing def asks of them -/
structure HeardF (K : PySem.W.Frag) (mg : Str → Option Value) (CB CR CT CD : Addr) : Prop where
  gB : mg "BadArgument" = some (.ref CB)
  gR : mg "RoundAbout" = some (.ref CR)
  gT : mg "TooMany" = some (.ref CT)
  gD : mg "DueError" = some (.ref CD)
  eB : ExcC K CB
  eR : ExcC K CR
  eT : ExcC K CT
  bb : PySem.W.exmOne K (.ref CB) (.ref CB) = some true
  rb : PySem.W.exmOne K (.ref CR) (.ref CB) = some false
  rr : PySem.W.exmOne K (.ref CR) (.ref CR) = some true
  tb : PySem.W.exmOne K (.ref CT) (.ref CB) = some false
  tr : PySem.W.exmOne K (.ref CT) (.ref CR) = some false
  tt : PySem.W.exmOne K (.ref CT) (.ref CT) = some true
  br : PySem.W.kitOne K (.ref CB) (.ref CR) = some false
  bt : PySem.W.kitOne K (.ref CB) (.ref CT) = some false
  rt : PySem.W.kitOne K (.ref CR) (.ref CT) = some false
  bd : PySem.W.kitOne K (.ref CB) (.ref CD) = some true
  rd : PySem.W.kitOne K (.ref CR) (.ref CD) = some true
  td : PySem.W.kitOne K (.ref CT) (.ref CD) = some true
  bv : PySem.W.kitOne K (.ref CB) (.type "ValueError") = some true
  rv : PySem.W.kitOne K (.ref CR) (.type "ValueError") = some true
  tv : PySem.W.kitOne K (.ref CT) (.type "ValueError") = some true
  nB : PySem.W.findIn K (.ref CB) "name" = some none
  nR : PySem.W.findIn K (.ref CR) "cycle" = some none
  nT : PySem.W.findIn K (.ref CT) "things" = some none
  nM : PySem.W.findIn K (.ref CT) "most" = some none
/-- a clause for the errors of one class with a dict of their own -/
abbrev clsTS (C : Addr) (t : Addr → Addr → TS) : Addr → Value → Option Addr → TS := fun e cl dd D σ H => ∃ a, cl = .ref C ∧ dd = some a ∧ t e a D σ H
theorem pss_cls {X : Cx} {C : Addr} {st : Stmt} {sts : List Stmt} {t : Addr → Addr → TS} (h : ∀ (e a : Addr) (oe : Obj) (pn : List (Addr × Obj)), Zc (.ref C) (some a) oe → (∃ vs, oe.data = .fields vs) → PSs (X.suite e ((e, oe) :: pn)) (st :: sts) (t e a)) :
    ∀ (e : Addr) (oe : Obj) (cl : Value) (dd : Option Addr) (pn : List (Addr × Obj)), Zc cl dd oe → (∃ vs, oe.data = .fields vs) → PSs (X.suite e ((e, oe) :: pn)) (st :: sts) (clsTS C t e cl dd) := fun e oe cl dd pn hz hf => ⟨fun pins s σ H D I w => by
  obtain ⟨a, e1, e2, w⟩ := w
  subst e1 e2
  exact (h e a oe pn hz hf).run pins s σ H D I w⟩
/-- isinstance(e, C), as the suites ask it -/
def tIsX (e dd D : Addr) (K : PySem.W.Frag) (c : V) : TE := tCB (rIsX K D e dd) (tCons (tVar 1) (tCons (tC c) tNil))
theorem tIsX_is {K : PySem.W.Frag} {e dd D : Addr} {c : V} {cv : Value} {b : Bool} {σ : L2.St} {H : Hp} {Q : VK} {fs : List (Str × V)} (hs : σ[1]? = some (some (.ref e))) (hc : ∀ u, RelV c u → u = cv) (hk : PySem.W.kitOne K (.ref D) cv = some b) (hd : H dd = some (.xd fs)) (q : Q (.bl b) H) : tIsX e dd D K c σ H Q :=
  ⟨_, hs, c, cv, b, rfl, hc, hk, ⟨fs, hd⟩, q⟩
end D7
namespace D7
open PySem PySem.Spec PyProof.Rows L2
abbrev hSt : Stmt := PySem.Challenge.pw_duethread_k00_lists_and_round_ways.main.body.getD 24 (.Pass ⟨0, 0, 0, 0⟩)
theorem hSc : FnScope ["ask", "e"] ["ask"] (defScope hSt) := ⟨rfl, rfl, rfl, by decide +kernel, rfl, by decide +kernel, by decide +kernel⟩
theorem bootValueError : bootBuiltins "ValueError" = some (.type "ValueError") := PyProof.Rows.Boot.«ValueError»
theorem bootIsi : bootBuiltins "isinstance" = some (.builtin "isinstance") := PyProof.Rows.boot_isinstance
section
variable {X : Cx} {CB CR CT CD : Addr} {e a D : Addr} {oe : Obj} {pn : List (Addr × Obj)}
theorem pe_isC {C : Addr} {x y : Str} {p1 p2 p3 pos : Pos} (hE : ExcC X.K D) (hz : Zc (.ref D) (some a) oe) (hf : ∃ vs, oe.data = .fields vs) (hN : X.N[1]? = some y) (hv : X.env.scope.names.lookup y = some .local) (hi : Gl X "isinstance") (hm : X.mg "isinstance" = none) (hg : Gl X x) (hmx : X.mg x = some (.ref C))
    (h1 : starEach ((.Name y p2) :: [.Name x p3]) X.env = (false, eval (.Name y p2) X.env) :: starEach [.Name x p3] X.env := by rfl) (hd1 : (x == ("__debug__" : Str)) = false := by decide) (hd : (y == ("__debug__" : Str)) = false := by decide) (hcd : (y == ("__classdict__" : Str)) = false := by decide) :
    PE (X.suite e ((e, oe) :: pn)) (.Call (.Name "isinstance" p1) [.Name y p2, .Name x p3] [] pos) (tIsX e a D X.K (.ref C)) :=
  pe_callB (call_isX hE hz hf) hi hm bootIsi (pa_cons (pe_var (i := 1) hN (.inl hv) hd hcd) (pa_cons (pe_glob hg hmx rfl hd1) pa_nil) h1)
theorem pe_isT {x y : Str} {T : String} {p1 p2 p3 pos : Pos} (hE : ExcC X.K D) (hz : Zc (.ref D) (some a) oe) (hf : ∃ vs, oe.data = .fields vs) (hN : X.N[1]? = some y) (hv : X.env.scope.names.lookup y = some .local) (hi : Gl X "isinstance") (hm : X.mg "isinstance" = none) (hg : Gl X x) (hmx : X.mg x = none) (hb : bootBuiltins x = some (.type T))
    (h1 : starEach ((.Name y p2) :: [.Name x p3]) X.env = (false, eval (.Name y p2) X.env) :: starEach [.Name x p3] X.env := by rfl) (hd1 : (x == ("__debug__" : Str)) = false := by decide) (hn1 : x ≠ "__name__" := by decide) (hd : (y == ("__debug__" : Str)) = false := by decide) (hcd : (y == ("__classdict__" : Str)) = false := by decide) :
    PE (X.suite e ((e, oe) :: pn)) (.Call (.Name "isinstance" p1) [.Name y p2, .Name x p3] [] pos) (tIsX e a D X.K (.ty T)) :=
  pe_callB (call_isX hE hz hf) hi hm bootIsi (pa_cons (pe_var (i := 1) hN (.inl hv) hd hcd) (pa_cons (pe_bltn hg hmx hb rfl hn1 hd1) pa_nil) h1)
abbrev hX (X : Cx) (g : Addr) (cdg : Value) (s : Shared) (H : Hp) : Cx := (cxOf C8.CX0 X.prog X.w X.K X.mg X.base ["ask", "e"] "_law_heard" (defScope hSt) g cdg X.A X.stack s H C8.E0).nox
theorem heard_gives {g : Addr} {cdg : Value} {q : Str} (HF : HeardF X.K X.mg CB CR CT CD) (mi : X.mg "isinstance" = none) (mv : X.mg "ValueError" = none) : LamX.GivesTo X ["ask", "e"] "_law_heard" (defScope hSt) g cdg (defBody hSt) "ask" q (THeard CB CR CT) := by
  intro f c' s H Q tl act hc h
  refine ⟨_, pss_cons (ps_tryA (X := hX X g cdg s H) (n := "e") (i := 1) (Wo := fun _ _ _ _ => False)
      (tb := fun W D σ H => ∃ Ech : XK, (∀ cls d σ' H', Ech cls d H' → W cls d σ' H') ∧ σ[0]? = some (some (.ref f)) ∧ H c' = some (LamX.CodeO c' q) ∧ tl Ech H fun _ H1 => D.nx σ H1)
      rfl rfl hSc.nd rfl rfl takes_none5 (fun W pn xe tk po => pss_one ⟨fun pins s' σ H' D I w => ?_⟩)
      (.cons (c := .ref CB) ⟨rfl, rfl, .inl HF.gB⟩ (pss_cls fun e a oe pn hz hf => pss_cons (ps_if (pw_or (pt_val (pe_isC (X := hX X g cdg s H) HF.eB hz hf rfl rfl rfl mi (by rfl) HF.gR)) (pw_or1 (pt_val (pe_isC (X := hX X g cdg s H) HF.eB hz hf rfl rfl rfl mi (by rfl) HF.gT)))).pt (pss_one (ps_ret (pe_tup (pa_cons pe_str pa_nil)))) pss_nil)
          (pss_one (ps_ret (pe_tup (pa_cons pe_str (pa_cons (pe_xf (X := hX X g cdg s H) HF.eB HF.nB hz hf (pv 1)) (pa_cons (pe_and (pe_isC (X := hX X g cdg s H) HF.eB hz hf rfl rfl rfl mi (by rfl) HF.gD) (pe_one (pe_isT (X := hX X g cdg s H) HF.eB hz hf rfl rfl rfl mi (by rfl) mv bootValueError))) pa_nil)))))))
      (.cons (c := .ref CR) ⟨rfl, rfl, .inl HF.gR⟩ (pss_cls fun e a oe pn hz hf => pss_cons (ps_if (pt_val (pe_isC (X := hX X g cdg s H) HF.eR hz hf rfl rfl rfl mi (by rfl) HF.gT)) (pss_one (ps_ret (pe_tup (pa_cons pe_str pa_nil)))) pss_nil)
          (pss_one (ps_ret (pe_tup (pa_cons pe_str (pa_cons (pe_xf (X := hX X g cdg s H) HF.eR HF.nR hz hf (pv 1)) (pa_cons (pe_and (pe_isC (X := hX X g cdg s H) HF.eR hz hf rfl rfl rfl mi (by rfl) HF.gD) (pe_one (pe_isT (X := hX X g cdg s H) HF.eR hz hf rfl rfl rfl mi (by rfl) mv bootValueError))) pa_nil)))))))
      (.cons (c := .ref CT) ⟨rfl, rfl, .inl HF.gT⟩ (pss_cls fun e a oe pn hz hf => pss_one (ps_ret (pe_tup (pa_cons pe_str (pa_cons (pe_tup (pa_cons (pe_xf (X := hX X g cdg s H) HF.eT HF.nT hz hf (pv 1)) (pa_cons (pe_xf (X := hX X g cdg s H) HF.eT HF.nM hz hf (pv 1)) pa_nil)))
            (pa_cons (pe_and (pe_isC (X := hX X g cdg s H) HF.eT hz hf rfl rfl rfl mi (by rfl) HF.gD) (pe_one (pe_isT (X := hX X g cdg s H) HF.eT hz hf rfl rfl rfl mi (by rfl) mv bootValueError))) pa_nil))))))
      .nil))))
    (pss_one (ps_ret (pe_tup pa_nil))), ?_⟩
  · obtain ⟨Ech, hW, h1, h2, h3⟩ := w
    exact (ps_expr (act W pn xe Ech _ _ tk hW)).run pins s' σ H' D I ⟨h1, h2, h3⟩
  · refine ⟨_, fun cls d σ' H' w => ?_, rfl, hc, h⟩
    obtain ⟨dd, fs, rfl, hd, w⟩ := w
    have two : (2 : Nat) ≤ sizeLine := by decide
    have three : (3 : Nat) ≤ sizeLine := by decide
    have one : (1 : Nat) ≤ sizeLine := by decide
    have sl : ∀ {e : Addr}, σ'.length = 2 → (σ'.set 1 (some (V.ref e)))[1]? = some (some (.ref e)) := fun {e} h => List.getElem?_set_self (by omega)
    have rC : ∀ {C : Addr} (u : Value), RelV (V.ref C) u → u = .ref C := fun u h => h
    have rT : ∀ {T : String} (u : Value), RelV (V.ty T) u → u = .type T := fun u h => h
    rcases w with ⟨rfl, v, h1, k⟩ | ⟨rfl, v, h1, k⟩ | ⟨rfl, v, w, h1, h2, k⟩
    · refine ⟨true, HF.bb, fun _ e he hl => ⟨dd, rfl, rfl, ?_⟩, nofun⟩
      refine tIsX_is (sl hl) rC HF.br hd ⟨false, rfl, tIsX_is (sl hl) rC HF.bt hd ⟨false, rfl, ?_⟩⟩
      refine ⟨_, sl hl, rfl, fs, v, hd, h1, ?_⟩
      refine tIsX_is (sl hl) rC HF.bd hd ⟨true, rfl, tIsX_is (sl hl) rT HF.bv hd ⟨three, k⟩⟩
    · refine ⟨false, HF.rb, nofun, fun _ => ⟨true, HF.rr, fun _ e he hl => ⟨dd, rfl, rfl, ?_⟩, nofun⟩⟩
      refine tIsX_is (sl hl) rC HF.rt hd ⟨false, rfl, ?_⟩
      refine ⟨_, sl hl, rfl, fs, v, hd, h1, ?_⟩
      refine tIsX_is (sl hl) rC HF.rd hd ⟨true, rfl, tIsX_is (sl hl) rT HF.rv hd ⟨three, k⟩⟩
    · refine ⟨false, HF.tb, nofun, fun _ => ⟨false, HF.tr, nofun, fun _ => ⟨true, HF.tt, fun _ e he hl => ⟨dd, rfl, rfl, ?_⟩, nofun⟩⟩⟩
      refine ⟨_, sl hl, rfl, fs, v, hd, h1, ?_⟩
      refine ⟨_, sl hl, rfl, fs, w, hd, h2, two, fun p hp => ?_⟩
      have hd2 : upd H' p (.tup [v, w]) dd = some (.xd fs) := by rw [upd_ne (ne_of_none hd hp)]; exact hd
      refine tIsX_is (sl hl) rC HF.td hd2 ⟨true, rfl, tIsX_is (sl hl) rT HF.tv hd2 ⟨three, fun q hq => k p hp q hq⟩⟩
end
end D7
namespace D7
open PySem PySem.Spec PyProof.Rows L2
/-! ### all, any over a generator expression -/
theorem Base.tabbed {c : Cfg} {g : Gh} {P : Addr} {H H1 : Hp} (b : Good c g H) (hP : P ∈ c.G) (hT : ∀ p ∈ c.T, p.1 ≠ P) (t : GxR.Tabbed P H H1) : Base c g H g H1 := by
  obtain ⟨ps, hp, _⟩ := b.tab.2 P hP
  obtain ⟨⟨ps1, hp1, ht1⟩, same⟩ := t
  have ne : ∀ y o, H y = some o → (∀ q, o ≠ .tbl q) → y ≠ P := fun y o e n z => n ps (Option.some.inj (e.symm.trans (z ▸ hp)))
  refine b.tabs (fun a o e n => (same a (ne a o e n)).trans e) (fun a h => ?_) (fun p hp' => ?_) fun Q hQ => ?_
  · by_cases e : a = P
    · rw [e, hp1]; exact fun z => nomatch z
    · rw [same a e]; exact h
  · obtain ⟨qs, a1, a2, a3⟩ := b.tab.1 p hp'
    refine ⟨qs, (same _ (hT p hp')).trans a1, a2, fun pos cv hc => ?_⟩
    obtain ⟨c0, e1, e2⟩ := a3 pos cv hc
    exact ⟨c0, e1, (same _ (ne _ _ e2 LamX.codeO_ne)).trans e2⟩
  · by_cases e : Q = P
    · rw [e]; exact ⟨ps1, hp1, ht1⟩
    · obtain ⟨qs, a1, a2⟩ := b.tab.2 Q hQ
      exact ⟨qs, (same _ e).trans a1, a2⟩
def truW (stop : Bool) (tg : DG) (tt : DT) (te : DW) (vs : List Nat) (k : Bool → List Cell → Prop) : List D → List Cell → Prop
  | [], ρ => k (!stop) ρ
  | x :: xs, ρ => tg x ρ (fun ρ1 => tt ρ1 (fun b ρ2 => bIf b (te ρ2 (fun y ρ3 => kTru y fun t => bIf (t == stop) (k stop (wipeC ρ3 vs)) (truW stop tg tt te vs k xs (wipeC ρ3 vs))) no) (truW stop tg tt te vs k xs (wipeC ρ2 vs))) no) no
def dTruG (stop : Bool) (ti : DI) (tg : DG) (tt : DT) (te : DW) (vs : List Nat) : DW := fun ρ q ex => ti ρ (fun items ρ1 => truW stop tg tt te vs (fun b ρ2 => q (.bl b) (unwipe ρ1 ρ2 vs)) items (wipeC ρ1 vs)) ex
section
variable {X : Cx} {c : Cfg} {E : XK} {pos : Pos}
theorem lift_truG {stop : Bool} {P : Addr} {ti : DI} {t : DG} {tt : DT} {te : DW} {ws vs : List Nat} (hP : P ∈ c.G) (hT : ∀ p ∈ c.T, p.1 ≠ P) (hv : ∀ i ∈ ws, i ∈ vs) {σ : L2.St} {H : Hp} {Q : VK} (h : liftE c E (dTruG stop ti t tt te vs) σ H Q) :
    tTruG c.K P stop (liftI c E ti) (liftG c xno ws t) (liftT c xno tt) (liftE c xno te) vs σ H Q := by
  obtain ⟨g0, H0, g, ρ, τ, q, ex, st, h, hx, kk⟩ := h
  refine ⟨g0, H0, g, ρ, τ, _, ex, st, h, hx, fun items ρ1 J g1 H1 h1 l1 st1 it => ⟨st1.base.tab.2 P hP, fun H2 tb => ?_⟩⟩
  have st2 := st1.step (Base.tabbed st1.base.good hP hT tb)
  refine ⟨fun i m H => ∃ g2 ρ2, g1.le g2 ∧ StD c g0 H0 g2 H ρ2 (L2.wipe σ vs) τ ∧ m = items.length - i ∧ i ≤ items.length ∧ truW stop t tt te vs (fun b ρ2 => q (.bl b) (unwipe ρ1 ρ2 vs)) (items.drop i) ρ2,
    ⟨_, g1, _, g1.le_refl, st2.wipe vs, rfl, Nat.zero_le _, h1⟩, ?_⟩
  rintro i m H3 ⟨g2, ρ2, l2, st3, rfl, hi, w⟩
  have io := it i g2 H3 l2 st3.base.good
  by_cases lt : i < items.length
  · obtain ⟨go, yl⟩ := io.1 items[i] (List.getElem?_eq_getElem lt)
    refine .inr ⟨go, fun H' => ∃ g2 ρ2, g1.le g2 ∧ StD c g0 H0 g2 H' ρ2 (L2.wipe σ vs) τ ∧ truW stop t tt te vs (fun b ρ2 => q (.bl b) (unwipe ρ1 ρ2 vs)) (items.drop (i + 1)) ρ2,
      fun H' ⟨g3, ρ3, l3, st3, w3⟩ => ⟨items.length - (i + 1), by omega, g3, ρ3, l3, st3, rfl, lt, w3⟩, fun x H4 y => ?_⟩
    obtain ⟨g3, b3, r3⟩ := yl x H4 y
    rw [List.drop_eq_getElem_cons lt] at w
    refine ⟨g0, H0, g3, ρ2, τ, _, _, no, st3.step b3, r3, w, exc_no, fun ρ3 σ3 g4 H5 h4 l4 st4 n4 => ?_⟩
    have we : L2.wipe σ3 vs = L2.wipe σ vs := by
      rw [wipe_eq (σ := L2.wipe σ vs) (vs := vs) n4.1 n4.2 hv, wipe_wipe]
    refine ⟨we, g0, H0, g4, ρ3, τ, _, no, st4, h4, exc_no, fun b ρ4 g5 H6 h5 l5 st5 => ?_⟩
    cases b with
    | false =>
      refine ⟨g5, _, ((l2.trans b3.le).trans l4).trans l5, ?_, h5⟩
      rw [← we]
      exact st5.wipe vs
    | true =>
      refine ⟨g0, H0, g5, ρ4, τ, _, no, st5, h5, exc_no, fun y ρ5 v g6 H7 h6 l6 st6 r6 => ?_⟩
      obtain ⟨k, h7, h8⟩ := kTru_ok st6.base.good (.rep r6) h6
      refine ⟨k, h7, ?_⟩
      have L := (((l2.trans b3.le).trans l4).trans l5).trans l6
      have st7 := st6.wipe vs
      rw [we] at st7
      by_cases hk : k = stop
      · rw [beq_iff_eq.mpr hk] at h8
        rw [if_pos hk]
        exact kk (.bl stop) _ _ g6 H7 h8 (l1.trans L) (st2.unwipe L st7) (.bl _)
      · rw [beq_eq_false_iff_ne.mpr hk] at h8
        rw [if_neg hk]
        exact ⟨g6, _, L, st7, h8⟩
  · have e : i = items.length := by omega
    subst e
    rw [List.drop_eq_nil_of_le (Nat.le_refl _)] at w
    exact .inl ⟨io.2 (Nat.le_refl _), kk (.bl (!stop)) _ _ g2 H3 w (l1.trans l2) (st2.unwipe l2 st3) (.bl _)⟩
theorem pd_allG {cc P : Addr} {elt tg iter : Expr} {ifs : List Expr} {scope : Scope} {gpos p : Pos} {own : List (Str × Nat)} {ti : DI} {t : DG} {tt : DT} {te : DW} {ws : List Nat} {k : Nat} (hK : X.K = c.K) (hP : P ∈ c.G) (hT : ∀ q ∈ c.T, q.1 ≠ P) (hr : Room (k + 1) X.A) (hgl : Gl X "all") (hm : X.mg "all" = none) (hb : bootBuiltins "all" = some (.builtin "all"))
    (TB : GxR.TabB X.base X.mg cc P) (hcode : X.env.code = .ref cc) (hN : X.N.Nodup) (ok : GenOk X.N X.env.scope scope own) (hi : PDI X c E tg iter ti)
    (hg : ∀ (A : Around) (s : Shared) (H : Hp) (C : Addr) (code : Value) (cl : List (Str × Addr)) (fp : List Addr), Room k A → PDG (gcx X A s H (genEnv scope cl C code builtinsNs X.env) fp) c xno ws tg t)
    (ht : ∀ (A : Around) (s : Shared) (H : Hp) (C : Addr) (code : Value) (cl : List (Str × Addr)) (fp : List Addr), Room k A → PDTs (gcx X A s H (genEnv scope cl C code builtinsNs X.env) fp) c xno ifs tt)
    (he : ∀ (A : Around) (s : Shared) (H : Hp) (C : Addr) (code : Value) (cl : List (Str × Addr)) (fp : List Addr), Room k A → PD (gcx X A s H (genEnv scope cl C code builtinsNs X.env) fp) c xno elt te)
    (hv : ∀ i ∈ ws, i ∈ own.map (·.2)) (hs : ∀ v, genFold iter X.env v = pure v := by intro _; rfl)
    (hse : starEach [gE elt tg iter ifs scope gpos] X.env = (false, eval (gE elt tg iter ifs scope gpos) X.env) :: starEach [] X.env := by rfl) :
    PD X c E (.Call (.Name "all" p) [gE elt tg iter ifs scope gpos] [] pos) (dTruG false ti t tt te (own.map (·.2))) := (pe_allG hr hgl hm hb TB hcode hN ok hi hg ht he hs hse).imp fun _ _ _ h => by
  rw [hK]
  exact lift_truG hP hT hv h
theorem pd_anyG {cc P : Addr} {elt tg iter : Expr} {ifs : List Expr} {scope : Scope} {gpos p : Pos} {own : List (Str × Nat)} {ti : DI} {t : DG} {tt : DT} {te : DW} {ws : List Nat} {k : Nat} (hK : X.K = c.K) (hP : P ∈ c.G) (hT : ∀ q ∈ c.T, q.1 ≠ P) (hr : Room (k + 1) X.A) (hgl : Gl X "any") (hm : X.mg "any" = none)
    (TB : GxR.TabB X.base X.mg cc P) (hcode : X.env.code = .ref cc) (hN : X.N.Nodup) (ok : GenOk X.N X.env.scope scope own) (hi : PDI X c E tg iter ti)
    (hg : ∀ (A : Around) (s : Shared) (H : Hp) (C : Addr) (code : Value) (cl : List (Str × Addr)) (fp : List Addr), Room k A → PDG (gcx X A s H (genEnv scope cl C code builtinsNs X.env) fp) c xno ws tg t)
    (ht : ∀ (A : Around) (s : Shared) (H : Hp) (C : Addr) (code : Value) (cl : List (Str × Addr)) (fp : List Addr), Room k A → PDTs (gcx X A s H (genEnv scope cl C code builtinsNs X.env) fp) c xno ifs tt)
    (he : ∀ (A : Around) (s : Shared) (H : Hp) (C : Addr) (code : Value) (cl : List (Str × Addr)) (fp : List Addr), Room k A → PD (gcx X A s H (genEnv scope cl C code builtinsNs X.env) fp) c xno elt te)
    (hv : ∀ i ∈ ws, i ∈ own.map (·.2)) (hs : ∀ v, genFold iter X.env v = pure v := by intro _; rfl)
    (hse : starEach [gE elt tg iter ifs scope gpos] X.env = (false, eval (gE elt tg iter ifs scope gpos) X.env) :: starEach [] X.env := by rfl) :
    PD X c E (.Call (.Name "any" p) [gE elt tg iter ifs scope gpos] [] pos) (dTruG true ti t tt te (own.map (·.2))) := (pe_anyG hr hgl hm TB hcode hN ok hi hg ht he hs hse).imp fun _ _ _ h => by
  rw [hK]
  exact lift_truG hP hT hv h
end
end D7
namespace D7
open PySem PySem.Spec PyProof.Rows L2
/-! ### a method of the own unfinished object, called while it is being made; the answer is plain data -/
mutual
theorem Rep.back {K : PySem.W.Frag} {g g' : Gh} {y : Addr} {o : HO} (hy : g.F y = some o) (ho : ∃ C dx fs, o = .ins C dx fs) (he : ∀ b u, b ≠ y → g.F b = some u → g'.F b = some u) : ∀ {v : V} {d : D} {n : Nat}, Rep K g v d → okD n d = true → Rep K g' v d
  | _, _, _, .non, _ => .non
  | _, _, _, .bl b, _ => .bl b
  | _, _, _, .int i, _ => .int i
  | _, _, _, .str x, _ => .str x
  | _, _, 0, .lst h r, k => by cases k
  | _, _, 0, .tup h r, k => by cases k
  | _, _, n + 1, .lst (a := a) h r, k => .lst (he _ _ (fun z => by subst z; rw [hy] at h; obtain ⟨C, dx, fs, rfl⟩ := ho; cases h) h) (Reps.back hy ho he r k)
  | _, _, n + 1, .tup (a := a) h r, k => .tup (by
      rcases h with (h | ⟨o2, h⟩) | h
      · exact .inl (.inl (he _ _ (fun z => by subst z; rw [hy] at h; obtain ⟨C, dx, fs, rfl⟩ := ho; cases h) h))
      · exact .inl (.inr ⟨o2, he _ _ (fun z => by subst z; rw [hy] at h; obtain ⟨C, dx, fs, rfl⟩ := ho; cases h) h⟩)
      · exact .inr h) (Reps.back hy ho he r k)
  | _, _, 0, .set h, k => by cases k
  | _, _, _ + 1, .set h, k => by cases k
  | _, _, 0, .dic h _ _, k => by cases k
  | _, _, _ + 1, .dic h _ _, k => by cases k
  | _, _, 0, .dtu h _ _, k => by cases k
  | _, _, _ + 1, .dtu h _ _, k => by cases k
  | _, _, 0, .obj h _ _, k => by cases k
  | _, _, _ + 1, .obj h _ _, k => by cases k
  | _, _, 0, .row h, k => by cases k
  | _, _, _ + 1, .row h, k => by cases k
  | _, _, 0, .scr h, k => by cases k
  | _, _, _ + 1, .scr h, k => by cases k
theorem Reps.back {K : PySem.W.Frag} {g g' : Gh} {y : Addr} {o : HO} (hy : g.F y = some o) (ho : ∃ C dx fs, o = .ins C dx fs) (he : ∀ b u, b ≠ y → g.F b = some u → g'.F b = some u) : ∀ {v : List V} {d : List D} {n : Nat}, Reps K g v d → okDs n d = true → Reps K g' v d
  | _, _, _, .nil, _ => .nil
  | _, _, n, .cons (d := d) (ds := ds) h r, k => by
    have k : okD n d = true ∧ okDs n ds = true := by simpa [okDs] using k
    exact .cons (Rep.back hy ho he h k.1) (Reps.back hy ho he r k.2)
end
section
variable {X : Cx} {c : Cfg} {E : XK} {a b : Expr} {es : List Expr} {pos : Pos} {ta tb : DW} {ha hb : DH}
variable {k : Nat} {f C : Addr} {fd : FuncData} {ps : List Str} {m : Str} {p apos : Pos} {ds : DSp}
def dMethO (i : Nat) (C : Addr) (y : Str) (ds : DSp) : DW := fun ρ q _ => ∃ a fs, ρ[i]? = some (.ob a C fs) ∧ fs.lookup y = none ∧ ds [.obj C fs] (fun d => okD 60 d = true ∧ q d ρ) no
theorem lift_methO {i : Nat} {te : TE} (hte : ∀ σ H Q, (∃ v, σ[i]? = some (some v) ∧ Q v H) → te σ H Q) {σ : L2.St} {H : Hp} {Q : VK} (h : liftE c E (dMethO i C m ds) σ H Q) : tMeth C m (spOf c ds) [] E0 te tNil σ H Q := by
  obtain ⟨g0, H0, g, ρ, τ, q, ex, st, ⟨y, fs, hi, hn, hd⟩, hx, kk⟩ := h
  obtain ⟨dx, fvs, e, h1, h2, h3, h4, w, w2⟩ := st.ok i _ hi
  refine hte σ H _ ⟨_, e, y, dx, fvs, rfl, h1, lookup_none h3 hn, ?_⟩
  have b := st.base.good
  have np : ∀ {z u}, g.F z = some u → z ≠ y := fun {z u} e z => by rw [z, w.2.1] at e; cases e
  have fl : ∀ z u, g.F z = some u → upd g.F y (.ins C dx fvs) z = some u := fun z u e => by rw [upd_ne (np e)]; exact e
  have lg : g.le ⟨upd g.F y (.ins C dx fvs), g.rw⟩ := ⟨fl, fun _ h => h⟩
  have G : Good c ⟨upd g.F y (.ins C dx fvs), g.rw⟩ H := by
    refine ⟨Gh.le_refl _, fun z u h => ?_, fun z ps h => ?_, fun z u h => .inl h, fun r h => ?_, fun _ h => .inl h, fun _ h => h, fun _ _ h _ _ => h, b.tab⟩
    · have h : upd g.F y (.ins C dx fvs) z = some u := h
      by_cases e : z = y
      · subst e; rw [upd_same] at h; cases h; exact h1
      · rw [upd_ne e] at h; exact b.sub _ _ h
    · have h : upd g.F y (.ins C dx fvs) z = some (.tbl ps) := h
      by_cases e : z = y
      · subst e; rw [upd_same] at h; cases h
      · rw [upd_ne e] at h; exact b.ntb _ _ h
    · have hr : r ≠ y := fun e => w.2.2 (by rw [← e]; exact h)
      obtain ⟨k1, sa, ns, i, j, k, k2, k3, k4⟩ := b.row r h
      exact ⟨by show upd g.F y _ r = none; rw [upd_ne hr]; exact k1, sa, ns, i, j, k, k2, sqL_mono (fl sa) k3, k4⟩
  refine ⟨⟨upd g.F y (.ins C dx fvs), g.rw⟩, [.obj C fs], _, _, G, .cons (.obj upd_same h3 (h4.mono lg)) .nil, hd, exc_no, fun d v g2 H2 ⟨hk, hq⟩ b2 r2 => ?_⟩
  have y2 : g2.F y = some (.ins C dx fvs) := b2.le.1 _ _ upd_same
  have keepF : ∀ z u, z ≠ y → g2.F z = some u → (fun a => if a = y then none else g2.F a) z = some u := fun z u n h => by
    show (if z = y then none else g2.F z) = some u
    rw [if_neg n]; exact h
  have lg3 : g.le ⟨fun a => if a = y then none else g2.F a, g2.rw⟩ := ⟨fun z u h => keepF z u (np h) (b2.le.1 z u (fl z u h)), fun r h => b2.le.2 r h⟩
  have B3 : Base c g H ⟨fun a => if a = y then none else g2.F a, g2.rw⟩ H2 := by
    have un : ∀ z u, (if z = y then none else g2.F z) = some u → z ≠ y ∧ g2.F z = some u := fun z u h => by
      by_cases e : z = y
      · rw [if_pos e] at h; cases h
      · rw [if_neg e] at h; exact ⟨e, h⟩
    refine ⟨lg3, fun z u h => b2.sub _ _ (un z u h).2, fun z ps h => b2.ntb z ps (un z _ h).2, fun z u h => ?_, fun r h => ?_, fun r h => b2.rwn r h, b2.there, b2.keep, b2.tab⟩
    · obtain ⟨n, h⟩ := un z u h
      rcases b2.fr z u h with h | h
      · have h : upd g.F y _ z = some u := h
        rw [upd_ne n] at h; exact .inl h
      · exact .inr h
    · obtain ⟨k1, sa, ns, i, j, k, k2, k3, k4⟩ := b2.row r h
      refine ⟨by show (if r = y then none else g2.F r) = none; by_cases e : r = y <;> simp [e, k1], sa, ns, i, j, k, k2, ?_, k4⟩
      rcases k3 with (k3 | ⟨o2, k3⟩) | k3
      · exact .inl (.inl (keepF _ _ (fun z => by subst z; rw [y2] at k3; cases k3) k3))
      · exact .inl (.inr ⟨o2, keepF _ _ (fun z => by subst z; rw [y2] at k3; cases k3) k3⟩)
      · exact .inr k3
  exact kk d ρ v _ H2 hq B3.le (st.step B3) (Rep.back y2 ⟨_, _, _, rfl⟩ (fun z u n h => keepF z u n h) r2 hk)
theorem pd_methO {i : Nat} {pl : Sem Bool} (ho : PE X b (tVar i)) (cl : Cls X.K C) (hm : Meth X.K C m f) (F : FnOk X.prog X.w X.K X.mg X.base (L2.CX X.prog X.w) k f fd ps (spOf c ds)) (hr : Room k X.A) (hb : Binds X.K fd ps [])
    (ht : eval (.Call (.Attribute b m apos) [] [] pos) X.env = (do
      let ov ← eval b X.env
      standAt apos.atName
      let (f, first) ← holding [ov] (getMethod ov m pl)
      callWith pos f first (backTo pos (starEach [] X.env)) (backToKw pos (keywordEach [] X.env))) := by rfl) :
    PD X c E (.Call (.Attribute b m apos) [] [] pos) (dMethO i C m ds) := (pe_meth0 (E := E0) ho cl hm F hr hb .nil passL ht).imp fun _ _ _ h => lift_methO (fun _ _ _ w => w) h
/-- _law_heard(lambda: ..) -/
theorem pd_heard {x y q : Str} {g cc P CB CR CT : Addr} {pg : Arguments} {bg : List Stmt} {sg : Scope} {Ng : List Str} {td : DW}
    {params : Arguments} {body : Expr} {scope : Scope} {p lpos pos : Pos} (F : FunD X.K x x pg bg sg [] [] g fd) (hg : Gl X x) (hm : X.mg x = some (.ref g)) (hb : L2.Binds X.K fd [y] []) (Sg : FnScope Ng [y] sg) (hNg : Ng[0]? = some y) (hva : Vis sg y)
    (hG : LamX.GivesTo X Ng x sg g fd.code bg y (X.env.qual ++ "<lambda>") (THeard CB CR CT))
    (TB : LamX.TabB X.base X.mg cc P) (hcode : X.env.code = .ref cc) (hmT : (P, X.env.qual ++ "<lambda>") ∈ c.T) (hu : ∀ p ∈ c.T, p.1 = P → p.2 = X.env.qual ++ "<lambda>") (hP : P ∉ c.G) (hr : Room (k + 2) X.A) (L : LamX.LamS X.env.scope scope) (hdef : defaultsOf params X.env = ([], []))
    (hbind : ∀ (q : Str) (cl : List (Str × Addr)) (pm cv ctv : Value), bindArgs (PySem.W.kla_fn "<lambda>" q params body scope cl pm cv ctv) ⟨[], []⟩ = pure [])
    (hbody : ∀ (A : Around) (outer : List Env) (s : Shared) (H : Hp) (E : XK) (f c' : Addr), Room k (A.deeper (LamX.lamEnv X scope s.heap.objs.size f c')) → PD (LamX.lamCx X A outer s H E scope f c') c E body td)
    (hdb : (x == ("__debug__" : Str)) = false := by decide) (hd : (y == ("__debug__" : Str)) = false := by decide) (hcd : (y == ("__classdict__" : Str)) = false := by decide) :
    PD X c E (.Call (.Name x p) [.Lambda params body scope lpos] [] pos) (dHeard CB CR CT td) :=
  (pe_lamD (t := fun E => liftE c E td) F hg hm hb Sg hNg hva hG TB hcode hmT hu hr L hdef hbind hbody hdb hd hcd).imp fun _ _ _ h => lift_heard hmT hP h
end
end D7
/-! the rules as the printed terms name them -/
namespace D7
open PySem PySem.Spec PyProof.Rows L2
theorem _root_.L2.Room.units65 {k : Nat} {A : Around} (r : Room k A) : A.units + 65 < cLine := by have := r.un; omega
/-- a def of the module that may be called -/
structure Callee (P : Program) (w : World) (c : Cfg) (mg : Str → Option Value) (base : Heap) (x : Str) (k : Nat) (ps : List Str) (ds : DSp) (dd : List D) : Prop where
  ex : ∃ f fd dvs dsv, FnOk P w c.K mg base (L2.CX P w) k f fd ps (spOf c ds) ∧ mg x = some (.ref f) ∧ PySem.W.keepIn c.K (.ref f) = true ∧ Binds c.K fd ps dsv ∧ Vals dvs dsv ∧ ∀ g, Reps c.K g dvs dd
structure Maker (P : Program) (w : World) (c : Cfg) (mg : Str → Option Value) (base : Heap) (x : Str) (C : Addr) (k : Nat) (ps : List Str) (ds : DSi) (dd : List D) : Prop where
  ex : ∃ f fd dvs dsv, Mk c.K C f ∧ FnOk P w c.K mg base (L2.CX P w) k f fd ps (spInit c C ds) ∧ mg x = some (.ref C) ∧ Binds c.K fd ps dsv ∧ Vals dvs dsv ∧ ∀ g, Reps c.K g dvs dd
structure MethF (P : Program) (w : World) (c : Cfg) (mg : Str → Option Value) (base : Heap) (C : Addr) (m : Str) (k : Nat) (ps : List Str) (ds : DSp) : Prop where
  ex : ∃ f fd, Meth c.K C m f ∧ FnOk P w c.K mg base (L2.CX P w) k f fd ps (spOf c ds) ∧ Binds c.K fd ps []
structure PropF (P : Program) (w : World) (c : Cfg) (mg : Str → Option Value) (base : Heap) (C : Addr) (m : Str) (k : Nat) (ps : List Str) (ds : DSp) : Prop where
  ex : ∃ pp f fd, PropOf c.K C m pp f ∧ FnOk P w c.K mg base (L2.CX P w) k f fd ps (spOf c ds) ∧ Binds c.K fd ps []
/-- an own exception that is raised -/
structure ErrF (P : Program) (w : World) (c : Cfg) (mg : Str → Option Value) (C : Addr) (f : Str) : Prop where
  makes : MakesE P w c.K mg C f
  kp : PySem.W.keepIn c.K (.ref C) = true
  ex : PySem.W.subIn c.K (.ref C) (.type "BaseException") = some true
  ty : PySem.W.typeIn c.K (.ref C) = some (.type "type")
/-- the tables of the generator expressions, of the lambdas -/
structure GenF (c : Cfg) (mg : Str → Option Value) (base : Heap) (cd : Value) (cc P : Addr) : Prop where
  mem : P ∈ c.G
  noT : ∀ q ∈ c.T, q.1 ≠ P
  tab : GxR.TabB base mg cc P
  code : cd = .ref cc
structure LamF (c : Cfg) (mg : Str → Option Value) (base : Heap) (cd : Value) (q : Str) (cc P : Addr) : Prop where
  mem : (P, q) ∈ c.T
  one : ∀ p ∈ c.T, p.1 = P → p.2 = q
  noG : P ∉ c.G
  tab : LamX.TabB base mg cc P
  code : cd = .ref cc
def dTupR (t : DA) : DW := fun ρ q ex => t ρ (fun ds ρ1 => ∃ j, ds = [.int j] ∧ RgOk 0 j ∧ q (.tup (rangeD 0 j.toNat)) ρ1) ex
section
variable {X : Cx} {c : Cfg} {E : XK} {a b : Expr} {es : List Expr} {pos : Pos} {ta tb : DW} {ha hb : DH} {t : DA}
variable {k : Nat} {x m f : Str} {C : Addr} {ps : List Str} {dd : List D} {p apos : Pos} {ds : DSp} {di : DSi}
theorem pd_fn (F : Callee X.prog X.w c X.mg X.base x k ps ds dd) (hr : Room k X.A) (hK : X.K = c.K) (hx : Passes (L2.CX X.prog X.w) X E) (ha : PDA X c E (a :: es) t) (hg : Gl X x := by rfl)
    (hdb : (x == ("__debug__" : Str)) = false := by decide) (he : starEach (a :: es) X.env = (false, eval a X.env) :: starEach es X.env := by rfl) (hpl : (backTo pos (starEach es X.env)).any (·.1) = false := by rfl) :
    PD X c E (.Call (.Name x p) (a :: es) [] pos) (dCall ds dd t) := by
  obtain ⟨f, fd, dvs, dsv, h1, h2, h3, h4, h5, h6⟩ := F.ex
  rw [← hK] at h1 h3 h4
  exact pd_call h1 hr hg h2 h3 h4 h5 h6 hx ha hdb he hpl
theorem pd_make' (F : Maker X.prog X.w c X.mg X.base x C k ps di dd) (hr : Room (k + 1) X.A) (hK : X.K = c.K) (hx : Passes (L2.CX X.prog X.w) X E) (ha : PDA X c E (a :: es) t) (hg : Gl X x := by rfl)
    (hdb : (x == ("__debug__" : Str)) = false := by decide) (he : starEach (a :: es) X.env = (false, eval a X.env) :: starEach es X.env := by rfl) (hpl : (backTo pos (starEach es X.env)).any (·.1) = false := by rfl) :
    PD X c E (.Call (.Name x p) (a :: es) [] pos) (dMake C di dd t) := by
  obtain ⟨f, fd, dvs, dsv, h0, h1, h2, h4, h5, h6⟩ := F.ex
  rw [← hK] at h0 h1 h4
  exact pd_make h0 h1 hr hg h2 h4 h5 h6 hx ha hdb he hpl
theorem pd_methO' {i : Nat} {pl : Sem Bool} (F : MethF X.prog X.w c X.mg X.base C m k ps ds) (ho : PE X b (tVar i)) (cl : Cls c.K C) (hr : Room k X.A) (hK : X.K = c.K)
    (ht : eval (.Call (.Attribute b m apos) [] [] pos) X.env = (do
      let ov ← eval b X.env
      standAt apos.atName
      let (f, first) ← holding [ov] (getMethod ov m pl)
      callWith pos f first (backTo pos (starEach [] X.env)) (backToKw pos (keywordEach [] X.env))) := by rfl) :
    PD X c E (.Call (.Attribute b m apos) [] [] pos) (dMethO i C m ds) := by
  obtain ⟨f, fd, h0, h1, h4⟩ := F.ex
  rw [← hK] at h0 h1 h4 cl
  exact pd_methO ho cl h0 h1 hr h4 ht
theorem pd_prop' (F : PropF X.prog X.w c X.mg X.base C m k ps ds) (cl : Cls c.K C) (he : PD X c E a ta) (hr : Room (k + 1) X.A) (hK : X.K = c.K) (hab : attributeBase a m X.env (eval a X.env) = eval a X.env := by rfl) :
    PD X c E (.Attribute a m pos) (dProp C ds ta) := by
  obtain ⟨pp, f, fd, h0, h1, h4⟩ := F.ex
  rw [← hK] at h0 h1 h4 cl
  exact pd_prop he cl h0 h1 hr h4 hab
theorem ds_raise' {p pos2 : Pos} (hK : X.K = c.K) (hc : X.calm = true) (tk : Takes X (fun cls d _ H => E cls d H)) (M : ErrF X.prog X.w c X.mg C f) (hr : Room 2 X.A) (ha : PD X c E a ta) (hg : Gl X x) (hm : X.mg x = some (.ref C)) (hdb : (x == ("__debug__" : Str)) = false := by decide)
    (he : starEach (a :: []) X.env = (false, eval a X.env) :: starEach [] X.env := by rfl) (hpl : (backTo pos (starEach [] X.env)).any (·.1) = false := by rfl) : PDS X c E (.Raise (some (.Call (.Name x p) [a] [] pos)) none pos2) (sRaise C f ta) := by
  obtain ⟨h0, h1, h2, h3⟩ := M
  rw [← hK] at h0 h1 h2 h3
  exact ds_raise hK hc tk h0 h1 h2 h3 hr ha hg hm hdb he hpl
theorem pd_tupRange {p2 : Pos} {pos2 : Pos} (hc : X.calm = true) (hg : Gl X "tuple") (hm : X.mg "tuple" = none) (hg2 : Gl X "range") (hm2 : X.mg "range" = none) (ha : PD X c E a ta)
    (na : starEach [a] X.env = (false, eval a X.env) :: starEach [] X.env := by rfl) (nb : starEach [.Call (.Name "range" p2) [a] [] pos2] X.env = (false, eval (.Call (.Name "range" p2) [a] [] pos2) X.env) :: starEach [] X.env := by rfl) :
    PD X c E (.Call (.Name "tuple" p) [.Call (.Name "range" p2) [a] [] pos2] [] pos) (dTupR (dCons ta dNil)) :=
  (pe_tupRg hc hg hm (prg_1 hg2 hm2 ha na) nb).imp fun σ H Q ⟨g0, H0, g, ρ, τ, q, ex, st, h, hx, kk⟩ => by
    refine ⟨g0, H0, g, ρ, τ, _, ex, st, h, hx, fun d ρ1 v g1 H1 h1 l1 st1 r1 => ?_⟩
    obtain ⟨j, e, h2, h3⟩ := h1
    cases e
    cases r1
    refine ⟨j, rfl, h2, fun q hq => ?_⟩
    have bb := st1.base.good.alloc (o := .tup (rgV 0 j)) hq (fun _ => nofun)
    refine kk _ ρ1 _ _ _ h3 (l1.trans bb.le) (st1.step bb) (rep_tup st1.base.good hq ?_)
    unfold rgV rangeD
    rw [Int.sub_zero]
    have key : ∀ (f : Nat → Int) (l : List Nat), Reps c.K g1 (l.map fun k => V.int (f k)) (l.map fun k => D.int (f k)) := fun f l => by
      induction l with
      | nil => exact .nil
      | cons y ys ih => exact .cons (.int _) ih
    exact key _ _
theorem pd_append {i : Nat} {cpos : Pos} (hK : X.K = c.K) (ho : PE X b (tVar i)) (ha : PDA X c E (a :: es) t)
    (hbase : attributeBase b "append" X.env (eval b X.env) = eval b X.env := by rfl)
    (hfew : ((backTo cpos (starEach (a :: es) X.env)).all (fun x => !x.1) && (backToKw cpos (keywordEach [] X.env)).all (fun x => x.1.isSome)
      && decide ((a :: es).length + ([] : List Keyword).length + (if ([] : List Keyword).isEmpty then 0 else 1) < 30)) = true := by rfl)
    (hline : (apos.endLine == cpos.line) = true := by rfl) (hs : starEach (a :: es) X.env = (false, eval a X.env) :: starEach es X.env := by rfl) (hplain : (backTo cpos (starEach es X.env)).any (·.1) = false := by rfl) :
    PD X c E (.Call (.Attribute b "append" apos) (a :: es) [] cpos) (dMut "list" i kAppend t) := pd_mut hK F.plainAttrs_list F.slot_list_append F.type_list_append mt_append mu_append ho ha hbase hfew hline hs hplain
theorem pd_pop {i : Nat} {cpos : Pos} (hK : X.K = c.K) (ho : PE X b (tVar i)) (ha : PDA X c E (a :: es) t)
    (hbase : attributeBase b "pop" X.env (eval b X.env) = eval b X.env := by rfl)
    (hfew : ((backTo cpos (starEach (a :: es) X.env)).all (fun x => !x.1) && (backToKw cpos (keywordEach [] X.env)).all (fun x => x.1.isSome)
      && decide ((a :: es).length + ([] : List Keyword).length + (if ([] : List Keyword).isEmpty then 0 else 1) < 30)) = true := by rfl)
    (hline : (apos.endLine == cpos.line) = true := by rfl) (hs : starEach (a :: es) X.env = (false, eval a X.env) :: starEach es X.env := by rfl) (hplain : (backTo cpos (starEach es X.env)).any (·.1) = false := by rfl) :
    PD X c E (.Call (.Attribute b "pop" apos) (a :: es) [] cpos) (dMut "list" i kPopAt t) := pd_mut hK F.plainAttrs_list F.slot_list_pop F.type_list_pop mt_popAt mu_popAt ho ha hbase hfew hline hs hplain
theorem pd_add {i : Nat} {cpos : Pos} (hK : X.K = c.K) (ho : PE X b (tVar i)) (ha : PDA X c E (a :: es) t)
    (hbase : attributeBase b "add" X.env (eval b X.env) = eval b X.env := by rfl)
    (hfew : ((backTo cpos (starEach (a :: es) X.env)).all (fun x => !x.1) && (backToKw cpos (keywordEach [] X.env)).all (fun x => x.1.isSome)
      && decide ((a :: es).length + ([] : List Keyword).length + (if ([] : List Keyword).isEmpty then 0 else 1) < 30)) = true := by rfl)
    (hline : (apos.endLine == cpos.line) = true := by rfl) (hs : starEach (a :: es) X.env = (false, eval a X.env) :: starEach es X.env := by rfl) (hplain : (backTo cpos (starEach es X.env)).any (·.1) = false := by rfl) :
    PD X c E (.Call (.Attribute b "add" apos) (a :: es) [] cpos) (dMut "set" i kSAdd t) := pd_mut hK F.plainAttrs_set F.slot_set_add F.type_set_add mt_setAdd mu_sadd ho ha hbase hfew hline hs hplain
theorem cr_lenD : CallR X (.builtin "len") (rLenD X.K) := fun pins s σ H xs us Q I r ⟨p, ys, e, hs, k⟩ => call_len_seq pins s σ H xs us Q I r ⟨p, ys, e, hs, k (by
  rcases hs with hs | hs
  · exact (I.list hs).choose_spec.2.2
  · exact (I.tuple hs).choose_spec.2.2)⟩
theorem cr_listD : CallR X (.type "list") (rListD X.K) := call_list_of
theorem cr_tupleD : CallR X (.type "tuple") (rTupleD X.K) := call_tuple_of
theorem cr_int1 : CallR X (.type "int") rInt1 := call_int1
end
end D7
/-! statements that leave most slots as they are -/
namespace D7
open PySem PySem.Spec PyProof.Rows L2
def SameB (ws : List Nat) (σ σ' : L2.St) : Prop := ∀ i, i ∉ ws → σ'[i]? = σ[i]?
theorem SameB.refl {ws : List Nat} {σ : L2.St} : SameB ws σ σ := fun _ _ => rfl
theorem SameB.trans {ws : List Nat} {σ σ' σ'' : L2.St} (h : SameB ws σ σ') (k : SameB ws σ' σ'') : SameB ws σ σ'' := fun i hi => (k i hi).trans (h i hi)
def liftK (c : Cfg) (E : XK) (ws : List Nat) (td : DS) : TS := fun N σ H => ∃ g0 H0 g ρ τ k ex, StD c g0 H0 g H ρ σ τ ∧ td ρ k ex ∧ ExcK c g0 H0 ex E ∧
  (∀ ρ' σ' g' H', k.nx ρ' → g.le g' → StD c g0 H0 g' H' ρ' σ' τ → SameB ws σ σ' → N.nx σ' H') ∧ (∀ d v ρ' σ' g' H', k.rt d ρ' → g.le g' → StD c g0 H0 g' H' ρ' σ' τ → SameB ws σ σ' → Rep c.K g' v d → N.rt v H') ∧
  (∀ ρ' σ' g' H', k.bk ρ' → g.le g' → StD c g0 H0 g' H' ρ' σ' τ → SameB ws σ σ' → N.bk σ' H') ∧ (∀ ρ' σ' g' H', k.ct ρ' → g.le g' → StD c g0 H0 g' H' ρ' σ' τ → SameB ws σ σ' → N.ct σ' H')
abbrev PKS (X : Cx) (c : Cfg) (E : XK) (ws : List Nat) (st : Stmt) (td : DS) : Prop := PS X st (liftK c E ws td)
abbrev PKSs (X : Cx) (c : Cfg) (E : XK) (ws : List Nat) (st : List Stmt) (td : DS) : Prop := PSs X st (liftK c E ws td)
section
variable {X : Cx} {c : Cfg} {E : XK} {ws : List Nat} {a b : Expr} {pos : Pos} {ta tb : DW} {ha hb : DH}
theorem ks_ret (h : PD X c E a ta) : PKS X c E ws (.Return (some a) pos) (sRet ta) := (ps_ret h).imp fun N σ H ⟨g0, H0, g, ρ, τ, k, ex, st, h, hx, n1, n2, n3, n4⟩ =>
  ⟨g0, H0, g, ρ, τ, _, ex, st, h, hx, fun d ρ' v g' H' h2 l s r => n2 d v ρ' σ g' H' h2 l s .refl r⟩
theorem kss_nil : PKSs X c E ws [] sNx := pss_nil.imp fun N σ H ⟨g0, H0, g, ρ, τ, k, ex, st, h, hx, n1, n2, n3, n4⟩ => n1 ρ σ g H h g.le_refl st .refl
theorem kss_cons {s : Stmt} {ss : List Stmt} {u w : DS} (h : PKS X c E ws s u) (h1 : PKSs X c E ws ss w) : PKSs X c E ws (s :: ss) (sSeq u w) := (pss_cons h h1).imp fun N σ H ⟨g0, H0, g, ρ, τ, k, ex, st, h, hx, n1, n2, n3, n4⟩ =>
  ⟨g0, H0, g, ρ, τ, _, ex, st, h, hx, fun ρ1 σ1 g1 H1 h1 l1 st1 e1 => ⟨g0, H0, g1, ρ1, τ, k, ex, st1, h1, hx, fun ρ' σ' g' H' h l s e => n1 ρ' σ' g' H' h (l1.trans l) s (e1.trans e), fun d v ρ' σ' g' H' h l s e r => n2 d v ρ' σ' g' H' h (l1.trans l) s (e1.trans e) r,
    fun ρ' σ' g' H' h l s e => n3 ρ' σ' g' H' h (l1.trans l) s (e1.trans e), fun ρ' σ' g' H' h l s e => n4 ρ' σ' g' H' h (l1.trans l) s (e1.trans e)⟩, n2, n3, n4⟩
theorem kss_one {s : Stmt} {u : DS} (h : PKS X c E ws s u) : PKSs X c E ws [s] u := pss_one h
theorem ks_if {e : Expr} {s1 s2 : List Stmt} {t : DT} {u w : DS} (h : PDT X c E e t) (h1 : PKSs X c E ws s1 u) (h2 : PKSs X c E ws s2 w) : PKS X c E ws (.If e s1 s2 pos) (sIf t u w) := (ps_if h h1 h2).imp fun N σ H ⟨g0, H0, g, ρ, τ, k, ex, st, h, hx, n1, n2, n3, n4⟩ => by
  refine ⟨g0, H0, g, ρ, τ, _, ex, st, h, hx, fun b ρ1 g1 H1 h1 l1 st1 => ?_⟩
  cases b <;> exact ⟨g0, H0, g1, ρ1, τ, k, ex, st1, h1, hx, fun ρ' σ' g' H' h l s => n1 ρ' σ' g' H' h (l1.trans l) s, fun d v ρ' σ' g' H' h l s e r => n2 d v ρ' σ' g' H' h (l1.trans l) s e r, fun ρ' σ' g' H' h l s => n3 ρ' σ' g' H' h (l1.trans l) s, fun ρ' σ' g' H' h l s => n4 ρ' σ' g' H' h (l1.trans l) s⟩
theorem ks_asg {us : List Nat} {tg : Expr} {t : DG} (hsub : ∀ i ∈ us, i ∈ ws) (h : PD X c E a ta) (hg : PDG X c E us tg t) (hs : swapsWithSole [tg] a pos.line X.env = pure false := by rfl) (hw : swappedStores [tg] a X.env = pure none := by rfl)
    (h1 : (assignEach [tg] X.env).map (·.2) = [assign tg X.env] := by rfl) : PKS X c E ws (.Assign [tg] a pos) (sAsg ta t) := (ps_asg h hg hs hw h1).imp fun N σ H ⟨g0, H0, g, ρ, τ, k, ex, st, h, hx, n1, n2, n3, n4⟩ =>
  ⟨g0, H0, g, ρ, τ, _, ex, st, h, hx, fun d ρ1 v g1 H1 h1 l1 st1 r1 => ⟨g0, H0, g1, ρ1, τ, d, _, ex, st1, r1, h1, hx, fun ρ' σ' g' H' h l s e => n1 ρ' σ' g' H' h (l1.trans l) s fun i hi => e.2 i fun z => hi (hsub i z)⟩⟩
theorem ks_set {i : Nat} {x : Str} {pos' : Pos} {tc : DC} (hw : i ∈ ws) (hN : X.N.Nodup) (hi : X.N[i]? = some x) (hx : Loc X.env.scope x) (h : PC X c E a tc) (hs : swapsWith a (some (.Name x pos')) pos.line X.env = pure false := by rfl)
    (hf : X.fn x = true ∨ X.env.scope.names.lookup x = some .local := by first | exact .inl rfl | exact .inr rfl | assumption) : PKS X c E ws (.Assign [.Name x pos'] a pos) (sSet i tc) := (ps_set hN hi hx h hs hf).imp fun N σ H ⟨g0, H0, g, ρ, τ, k, ex, st, h, hx, n1, n2, n3, n4⟩ => by
  have sb : ∀ v, SameB ws σ (σ.set i (some v)) := fun v j hj => List.getElem?_set_ne fun (e : i = j) => hj (by rw [← e]; exact hw)
  refine ⟨g0, H0, g, ρ, τ, _, ex, st, h, hx, fun cl ρ' v g' H' τ' h2 l s r => ?_⟩
  cases r with
  | fz r => exact n1 _ _ g' H' h2 l (s.setF r) (sb _)
  | own r => exact n1 _ _ g' H' h2 l (s.setO r) (sb _)
end
end D7
/-! a def that changes the row of draws, which is its first argument -/
namespace D7
open PySem PySem.Spec PyProof.Rows L2
/-- the row as a list of one's own -/
abbrev rowO (ns : List Int) (i j k : Int) : Cell := .ow [.scr ns, .int i, .int j, .int k]
/-- the promise of a def that takes the row and plain data: told of the row as an own list -/
abbrev DRp := List D → (D → Prop) → Prop
theorem reps4 {K : PySem.W.Frag} {g : Gh} {xs : List V} {ns : List Int} {i j k : Int} (r : Reps K g xs [.scr ns, .int i, .int j, .int k]) : ∃ a, xs = [.ref a, .int i, .int j, .int k] ∧ SqL K g.F a (ns.map V.int) := by
  cases r with | cons r1 r =>
  cases r with | cons r2 r =>
  cases r with | cons r3 r =>
  cases r with | cons r4 r =>
  cases r
  cases r1 with | scr h =>
  cases r2
  cases r3
  cases r4
  exact ⟨_, rfl, h⟩
theorem base_row {c : Cfg} {g : Gh} {H : Hp} {r : Addr} (b : Good c g H) (hr : g.rw = some r) : Base c ⟨g.F, none⟩ (fun y => if y = r then none else H y) ⟨g.F, none⟩ H := by
  refine ⟨Gh.le_refl _, b.sub, b.ntb, fun a o h => .inl h, fun r h => (by cases h), fun r h => (by cases h), fun a h => ?_, fun a o h _ _ => ?_, b.tab⟩
  · have h : (if a = r then none else H a) ≠ none := h
    by_cases e : a = r
    · rw [if_pos e] at h; exact absurd rfl h
    · rw [if_neg e] at h; exact h
  · have h : (if a = r then none else H a) = some o := h
    by_cases e : a = r
    · rw [if_pos e] at h; cases h
    · rw [if_neg e] at h; exact h
theorem base_unrow {c : Cfg} {g g' : Gh} {H H' : Hp} {r sa : Addr} {ns : List Int} {i j k : Int} (b : Good c g H) (hr : g.rw = some r) (s : Base c ⟨g.F, none⟩ (fun y => if y = r then none else H y) g' H') (le : (⟨g.F, none⟩ : Gh).le g') (hx : H' r = some (.lst [.ref sa, .int i, .int j, .int k])) (hs : SqL c.K g'.F sa (ns.map V.int))
    (w : g'.F r = none) (hi : 0 ≤ i) (hj : 0 ≤ j) (hk : 0 ≤ k) : Base c g H ⟨g'.F, some r⟩ H' := by
  have at_ : ∀ a, a ≠ r → (fun y => if y = r then none else H y) a = H a := fun a e => if_neg e
  refine ⟨⟨fun a o h => le.1 a o h, fun q h => by rw [hr] at h; exact h⟩, s.sub, s.ntb, fun a o h => ?_, fun q h => ?_, fun q h => .inl (by rw [hr]; exact h), fun a h => ?_, fun a o h n t => ?_, s.tab⟩
  · rcases s.fr a o h with z | z
    · exact .inl z
    · by_cases e : a = r
      · have h : g'.F a = some o := h
        rw [e, w] at h; cases h
      · exact .inr ((at_ a e).symm.trans z)
  · cases h
    exact ⟨w, sa, ns, i, j, k, hx, hs, hi, hj, hk⟩
  · by_cases e : a = r
    · rw [e, hx]; exact fun z => nomatch z
    · exact s.there a (fun z => h ((at_ a e).symm.trans z))
  · by_cases e : a = r
    · exact absurd (by rw [hr, e]) n
    · exact s.keep a o ((at_ a e).trans h) (fun z => nomatch z) t
/-- THE RULE: (row, m) -/
theorem fn_R {P : Program} {w : World} {c : Cfg} {mg : Str → Option Value} {base : Heap} {x qual : Str} {params : Arguments} {body : List Stmt} {scope : Scope} {dvs : List V} {kws : List (Str × V)} {f : Addr} {fd : FuncData} {N ps : List Str} {k : Nat} {ds : DSp} {ts : DS} {ws : List Nat}
    (F : FunD c.K x qual params body scope dvs kws f fd) (S : FnScope N ps scope) (hw : 0 ∉ ws) (len : ∀ args q ex, ds args q ex → ∃ m : Int, args = [.row, .int m] ∧ 2 = ps.length) (hN : 2 ≤ N.length)
    (hbody : ∀ (A : Around) (outer : List Env) (s : Shared) (H : Hp) (E : XK), Room k (A.deeper (envOfC qual scope s.heap.objs.size f fd.code)) → PKSs (cxOf (L2.CX P w) P w c.K mg base N qual scope f fd.code A outer s H E) c E ws body ts)
    (law : ∀ (m : Int) (ns : List Int) (i j k : Int) q ex, ds [.row, .int m] q ex → 0 ≤ i → 0 ≤ j → 0 ≤ k → ts (rowO ns i j k :: .fz (.int m) :: List.replicate (N.length - 2) .off) { nx := fun _ => False, rt := fun d ρ => (∃ n, d = .int n) ∧ q d ∧ ∃ i' j' k', ρ[0]? = some (rowO ns i' j' k') ∧ 0 ≤ i' ∧ 0 ≤ j' ∧ 0 ≤ k' } no) :
    FnOk P w c.K mg base (L2.CX P w) (k + 1) f fd ps (spOf c ds) := by
  obtain ⟨oc, od, dV, kV, doc, pm, an, cdv, ct, osl, rfl, lk, hcd, _, _⟩ := F.ex
  refine fn_of lk hcd S (fun vs H Q E h => ?_) fun A outer s H vs Q E hr h => ?_
  · obtain ⟨g, args, q, ex, b, r, h, _⟩ := h
    obtain ⟨m, e, h2⟩ := len _ _ _ h
    rw [r.length, e]
    exact h2
  · obtain ⟨g, args, q, ex, b, r, h, hx, kk⟩ := h
    obtain ⟨m, e, _⟩ := len _ _ _ h
    subst e
    cases r with | cons r1 r =>
    cases r with | cons r2 r =>
    cases r
    cases r1 with | row hrw =>
    cases r2
    rename_i rr
    obtain ⟨w0, sa, ns, i, j, kn, hl, hs, hi, hj, hk⟩ := b.row rr hrw
    have sl0 : (L2.start N [V.ref rr, V.int m])[0]? = some (some (.ref rr)) := by
      unfold L2.start
      rfl
    have sl1 : (L2.start N [V.ref rr, V.int m])[1]? = some (some (.int m)) := by
      unfold L2.start
      rfl
    have st : StD c ⟨g.F, none⟩ (fun y => if y = rr then none else H y) ⟨g.F, none⟩ H (rowO ns i j kn :: .fz (.int m) :: List.replicate (N.length - 2) .off) (L2.start N [V.ref rr, V.int m]) [] := by
      have off : ∀ {n : Nat} {cl : Cell}, (rowO ns i j kn :: .fz (.int m) :: List.replicate (N.length - 2) .off)[n + 2]? = some cl → cl = .off := fun {n cl} h => by
        rw [List.getElem?_cons_succ, List.getElem?_cons_succ] at h
        exact (List.mem_replicate.mp (List.mem_of_getElem? h)).2
      refine ⟨base_row b hrw, ?_, fun n cl hn => ?_, fun n1 n2 c1 c2 a hne h1 h2 o1 o2 => ?_, fun p hp => (by cases hp), List.nodup_nil⟩
      · unfold L2.start
        simp only [List.length_append, List.length_map, List.length_replicate, List.length_cons, List.length_nil]
        omega
      · match n, hn with
        | 0, hn =>
          cases hn
          refine ⟨rr, _, sl0, hl, .cons (.scr hs) (.cons (.int _) (.cons (.int _) (.cons (.int _) .nil))), ?_, w0, fun z => (by cases z)⟩
          show (if rr = rr then none else H rr) = none
          rw [if_pos rfl]
        | 1, hn =>
          cases hn
          exact ⟨_, sl1, .int _⟩
        | n + 2, hn =>
          rw [off hn]
          trivial
      · have z : ∀ {n : Nat} {cl : Cell}, (rowO ns i j kn :: .fz (.int m) :: List.replicate (N.length - 2) .off)[n]? = some cl → cl.own = true → n = 0 := fun {n cl} h o => by
          match n, h with
          | 0, _ => rfl
          | 1, h => cases h; cases o
          | n + 2, h => rw [off h] at o; cases o
        intro _ _
        exact hne ((z h1 o1).trans (z h2 o2).symm)
    refine ⟨_, hbody A outer s H E hr, _, _, _, _, [], _, no, st, law m ns i j kn q ex h hi hj hk, exc_no, fun _ _ _ _ h => h.elim, fun d v ρ' σ' g' H' hq l s sb r => ?_, fun _ _ _ _ h => h.elim, fun _ _ _ _ h => h.elim⟩
    obtain ⟨⟨n, rfl⟩, hq, i', j', k', h0, hi', hj', hk'⟩ := hq
    obtain ⟨a, xs, e1, e2, e3, w1, w2, w3⟩ := s.ok 0 _ h0
    rw [sb 0 hw, sl0] at e1
    cases e1
    obtain ⟨sa', rfl, hs'⟩ := reps4 e3
    cases r
    exact kk (.int n) (.int n) ⟨g'.F, some rr⟩ H' hq (base_unrow b hrw s.base l e2 hs' w2 hi' hj' hk') (.int n)
/-- the law's promise: all tables empty, a script in hand: it says True -/
def spLaw (c : Cfg) (n : Nat) : Sp := fun vs H Q _ => ∃ (a : Addr) (ns : List Int), vs = [.ref a] ∧ ns.length ≤ n ∧ (∀ p ∈ c.T, H p.1 = some (.tbl #[])) ∧ (∀ p ∈ c.G, H p = some (.tbl #[])) ∧ SqL c.K H a (ns.map V.int) ∧ ∀ H', Q (.bl true) H'
/-- row = [script, 0, z, 0] -/
def tRow (z : Int) : TS := fun N σ H => ∃ a, σ[0]? = some (some (V.ref a)) ∧ ∀ r, H r = none → N.nx (σ.set 1 (some (.ref r))) (upd H r (.lst [.ref a, .int 0, .int z, .int 0]))
theorem ps_row {X : Cx} {st : Stmt} {z : Int} (h : PS X st (tAsg (tLst (tCons (tVar 0) (tCons (tC (.int 0)) (tCons (tC (.int z)) (tCons (tC (.int 0)) tNil))))) (gName 1))) : PS X st (tRow z) :=
  h.imp fun N σ H ⟨a, e, k⟩ => ⟨_, e, (show (4 : Nat) ≤ sizeLine by decide), k⟩
theorem cut_at {H : Hp} {a : Addr} : ∀ b o, (fun b => if b = a then H b else none) b = some o → b = a ∧ H b = some o := fun b o e => by
  have e : (if b = a then H b else none) = some o := e
  by_cases q : b = a
  · rw [if_pos q] at e; exact ⟨q, e⟩
  · rw [if_neg q] at e; cases e
/-- THE RULE of the law's def -/
theorem fn_L {P : Program} {w : World} {c : Cfg} {mg : Str → Option Value} {base : Heap} {x qual : Str} {params : Arguments} {body rest : List Stmt} {st : Stmt} {scope : Scope} {dvs : List V} {kws : List (Str × V)} {f : Addr} {fd : FuncData} {N : List Str} {y : Str} {k n : Nat} {z : Int} {ts : DS}
    (F : FunD c.K x qual params body scope dvs kws f fd) (S : FnScope N [y] scope) (hb : body = st :: rest) (hN : 2 ≤ N.length) (hz : 0 ≤ z)
    (h1 : ∀ (A : Around) (outer : List Env) (s : Shared) (H : Hp) (E : XK), PS (cxOf (L2.CX P w) P w c.K mg base N qual scope f fd.code A outer s H E) st (tRow z))
    (hbody : ∀ (A : Around) (outer : List Env) (s : Shared) (H : Hp) (E : XK), Room k (A.deeper (envOfC qual scope s.heap.objs.size f fd.code)) → PDSs (cxOf (L2.CX P w) P w c.K mg base N qual scope f fd.code A outer s H E) c E rest ts)
    (law : ts (.off :: .fz .row :: List.replicate (N.length - 2) .off) { nx := fun _ => D.non = .bl true, rt := fun d _ => d = .bl true } no) : FnOk P w c.K mg base (L2.CX P w) (k + 1) f fd [y] (spLaw c n) := by
  subst hb
  obtain ⟨oc, od, dV, kV, doc, pm, an, cdv, ct, osl, rfl, lk, hcd, _, _⟩ := F.ex
  refine fn_of lk hcd S (fun vs H Q E h => ?_) fun A outer s H vs Q E hr h => ?_
  · obtain ⟨a, ns, rfl, _⟩ := h
    rfl
  · obtain ⟨a, ns, rfl, _, hT, hG, hS, hQ⟩ := h
    refine ⟨_, pss_cons (h1 A outer s H E) (hbody A outer s H E hr), a, rfl, fun r hr => ?_⟩
    have ex : ∀ b o, H b = some o → upd H r (.lst [.ref a, .int 0, .int z, .int 0]) b = some o := fun b o e => by rw [upd_ne (ne_of_none e hr)]; exact e
    obtain ⟨F0, hF1, hF2, hF3⟩ : ∃ F0 : Hp, (∀ b o, F0 b = some o → H b = some o) ∧ SqL c.K F0 a (ns.map V.int) ∧ ∀ b ps, F0 b ≠ some (.tbl ps) := by
      rcases hS with (hS | ⟨o, hS⟩) | hS
      · exact ⟨fun b => if b = a then H b else none, fun b o e => (cut_at b o e).2, .inl (.inl ((if_pos rfl).trans hS)), fun b ps e => by
          obtain ⟨q, e⟩ := cut_at b _ e
          rw [q, hS] at e; cases e⟩
      · exact ⟨fun b => if b = a then H b else none, fun b o e => (cut_at b o e).2, .inl (.inr ⟨o, (if_pos rfl).trans hS⟩), fun b ps e => by
          obtain ⟨q, e⟩ := cut_at b _ e
          rw [q, hS] at e; cases e⟩
      · exact ⟨fun _ => none, fun b o e => (by cases e), .inr hS, fun b ps e => (by cases e)⟩
    have nr : F0 r = none := by
      cases q : F0 r with
      | none => rfl
      | some o => rw [hF1 r o q] at hr; cases hr
    have B : Good c ⟨F0, some r⟩ (upd H r (.lst [.ref a, .int 0, .int z, .int 0])) := by
      refine ⟨Gh.le_refl _, fun b o e => ex b o (hF1 b o e), hF3, fun _ _ h => .inl h, fun q h => ?_, fun _ h => .inl h, fun _ h => h, fun _ _ h _ _ => h, fun p hp => ?_, fun p hp => ?_⟩
      · cases h
        exact ⟨nr, a, ns, 0, z, 0, upd_same, hF2, by omega, hz, by omega⟩
      · exact ⟨#[], ex _ _ (hT p hp), trivial, fun pos cv hc => by cases hc⟩
      · exact ⟨#[], ex _ _ (hG p hp), trivial⟩
    have sl1 : ((L2.start N [V.ref a]).set 1 (some (.ref r)))[1]? = some (some (.ref r)) := List.getElem?_set_self (by
      unfold L2.start
      simp only [List.length_append, List.length_map, List.length_replicate, List.length_cons, List.length_nil]
      omega)
    have off : ∀ {n : Nat} {cl : Cell}, (Cell.off :: .fz .row :: List.replicate (N.length - 2) .off)[n]? = some cl → n ≠ 1 → cl = .off := fun {n cl} h ne => by
      match n, h with
      | 0, h => cases h; rfl
      | 1, h => exact absurd rfl ne
      | n + 2, h =>
        rw [List.getElem?_cons_succ, List.getElem?_cons_succ] at h
        exact (List.mem_replicate.mp (List.mem_of_getElem? h)).2
    have st : StD c ⟨F0, some r⟩ (upd H r (.lst [.ref a, .int 0, .int z, .int 0])) ⟨F0, some r⟩ (upd H r (.lst [.ref a, .int 0, .int z, .int 0])) (.off :: .fz .row :: List.replicate (N.length - 2) .off) ((L2.start N [V.ref a]).set 1 (some (.ref r))) [] := by
      refine ⟨B, ?_, fun n cl hn => ?_, fun n1 n2 c1 c2 b hne h1 h2 o1 o2 => ?_, fun p hp => (by cases hp), List.nodup_nil⟩
      · rw [List.length_set]
        unfold L2.start
        simp only [List.length_append, List.length_map, List.length_replicate, List.length_cons, List.length_nil]
        omega
      · by_cases e : n = 1
        · subst e
          cases hn
          exact ⟨_, sl1, .row rfl⟩
        · rw [off hn e]
          trivial
      · by_cases e : n1 = 1
        · subst e
          cases h1
          cases o1
        · rw [off h1 e] at o1
          cases o1
    exact ⟨_, _, _, _, [], _, no, st, law, exc_no, fun ρ' σ' g' H' h l s => (by cases h), fun d v ρ' σ' g' H' h l s r => (by
      subst h
      cases r
      exact hQ H'), fun _ _ _ _ h => h.elim, fun _ _ _ _ h => h.elim⟩
end D7
namespace D7
open PySem PySem.Spec PyProof.Rows L2
structure HeardZ (c : Cfg) (mg : Str → Option Value) (CB CR CT CD : Addr) : Prop where
  ex : ∃ g fd, FunD c.K "_law_heard" "_law_heard" (defArgs hSt) (defBody hSt) (defScope hSt) [] [] g fd ∧ mg "_law_heard" = some (.ref g) ∧ Binds c.K fd ["ask"] []
  f : HeardF c.K mg CB CR CT CD
  mi : mg "isinstance" = none
  mv : mg "ValueError" = none
theorem pd_heard' {X : Cx} {c : Cfg} {E : XK} {CB CR CT CD cl Pl : Addr} {q : Str} {cd : Value} {td : DW} {params : Arguments} {body : Expr} {scope : Scope} {p lpos pos : Pos} {k : Nat} (Z : HeardZ c X.mg CB CR CT CD) (hL : LamF c X.mg X.base cd q cl Pl)
    (hK : X.K = c.K) (hq : X.env.qual ++ "<lambda>" = q) (hcd : X.env.code = cd) (hg : Gl X "_law_heard") (hr : Room (k + 2) X.A) (L : LamX.LamS X.env.scope scope) (hdef : defaultsOf params X.env = ([], []))
    (hbind : ∀ (q : Str) (cl : List (Str × Addr)) (pm cv ctv : Value), bindArgs (PySem.W.kla_fn "<lambda>" q params body scope cl pm cv ctv) ⟨[], []⟩ = pure [])
    (hbody : ∀ (A : Around) (outer : List Env) (s : Shared) (H : Hp) (E : XK) (f c' : Addr), Room k (A.deeper (LamX.lamEnv X scope s.heap.objs.size f c')) → PD (LamX.lamCx X A outer s H E scope f c') c E body td) :
    PD X c E (.Call (.Name "_law_heard" p) [.Lambda params body scope lpos] [] pos) (dHeard CB CR CT td) := by
  obtain ⟨⟨g, fd, h1, h2, h3⟩, h4, h5, h6⟩ := Z
  obtain ⟨k1, k2, k3, k4, k5⟩ := hL
  subst hq hcd
  rw [← hK] at h1 h3 h4
  exact pd_heard (q := "") h1 hg h2 h3 hSc rfl (.inl rfl) (heard_gives h4 h5 h6) k4 k5 k1 k2 k3 hr L hdef hbind hbody
end D7
/-! the facts that the head gives: errors, classes asked by isinstance, _law_heard -/
namespace D7
open PySem PySem.Spec PyProof.Rows L2 He PySem.HandSPX
def exClsB (K : PySem.W.Frag) (C : Addr) : Bool := match K.lookup C with
  | some ⟨.type t, _, .cls cd, sl⟩ => t == "type" && (match cd.mro, sl.toList with
    | .ref C' :: bm, [_, _, _, _, some (.builtin n), _] => C' == C && (n == "ValueError.__new__" && (!cd.hasDel && (cd.hasDict && refsVE bm)))
    | _, _ => false)
  | _ => false
theorem exClsB_ok {K : PySem.W.Frag} {C : Addr} (h : exClsB K C = true) : ∃ nm q N bs bm sn sub ab col dd k0 k1 k2 k3 k5, K.lookup C = some (excClassObj nm q C N bs bm true sn sub ab col dd k0 k1 k2 k3 k5 "ValueError.__new__") ∧ refsVE bm = true := by
  unfold exClsB at h
  split at h
  · rename_i t dd cd sl ho
    obtain ⟨ht, h⟩ := ba h
    split at h
    · rename_i C' bm k0 k1 k2 k3 n k5 hm hs
      simp only [Bool.and_eq_true, beq_iff_eq, Bool.not_eq_true'] at h ht
      obtain ⟨rfl, rfl, hdel, hd, hb⟩ := h
      obtain ⟨nm, bs, mro, ns, qn, hd', sn, sub, ab, col, del⟩ := cd
      dsimp only at hm hdel hd
      subst hm hdel hd ht
      have hsl : sl = #[k0, k1, k2, k3, some (.builtin "ValueError.__new__"), k5] := by
        obtain ⟨l⟩ := sl
        simp only at hs
        rw [hs]
      subst hsl
      exact ⟨nm, qn, ns, bs, bm, sn, sub, ab, col, dd, k0, k1, k2, k3, k5, ho, hb⟩
    · cases h
  · cases h
/-- the cell of the def's closure -/
def closA (K : PySem.W.Frag) (p : Fp) : Addr := match K.lookup (fAd K p) with
  | some ⟨_, _, .func z, _⟩ => (z.closure.map (·.2)).headD 0
  | _ => 0
def cellB (K : PySem.W.Frag) (p : Fp) (C : Addr) : Bool := match K.lookup (closA K p) with
  | some ⟨_, _, .cell (some (.ref C')), _⟩ => C' == C
  | _ => false
def fileB (file : Str) (K : PySem.W.Frag) (p : Fp) : Bool := (match K.lookup (fAd K p) with
  | some ⟨_, _, .func fd, _⟩ => (match fd.code with
    | .ref _ => true
    | _ => false)
  | _ => false) && (match K.lookup (codeOf K p) with
  | some ⟨_, _, .fields vs, _⟩ => (match (vs[2]? : Option Value) with
    | some (.str f _) => file == f
    | _ => false)
  | _ => false)
def errB (file : Str) (x : Str) (fs : List Str) : Fb := fun K => exClsB K (ga K x) && (eqO (PySem.W.findIn K (.ref (ga K x)) "__setattr__") (some (some (.builtin "object.__setattr__"))) &&
  (eqO (PySem.W.findIn K (.ref (ga K x)) "__init__") (some (some (.ref (fAd K (x, some "__init__"))))) && (decide (PySem.W.typeIn K (.ref (fAd K (x, some "__init__"))) = some (.type "function")) &&
  (eqO (PySem.W.ks_superIn K (ga K x) (ga K x) "__init__") (some (some (.builtin "ValueError.__init__"))) && (decide (PySem.W.subIn K (.ref (ga K x)) (.type "ValueError") = some true) && (decide (PySem.W.mroIn K (ga K x) (.ref (ga K x)) = some true) &&
  (eqO (PySem.W.nsIn K cStatics "thirdparty.any") (some none) && (cellB K (x, some "__init__") (ga K x) && (fileB file K (x, some "__init__") && ((fs.all fun f => eqO (PySem.W.findIn K (.ref (ga K x)) f) (some none)) &&
  (PySem.W.keepIn K (.ref (ga K x)) && (decide (PySem.W.subIn K (.ref (ga K x)) (.type "BaseException") = some true) && decide (PySem.W.typeIn K (.ref (ga K x)) = some (.type "type"))))))))))))))
theorem ref_of {K : PySem.W.Frag} {f : Addr} {oc od fd sl} (e : K.lookup f = some ⟨oc, od, .func fd, sl⟩) (h : (match K.lookup f with
  | some ⟨_, _, .func fd, _⟩ => (match fd.code with
    | .ref _ => true
    | _ => false)
  | _ => false) = true) : ∃ c, fd.code = .ref c := by
  rw [e] at h
  have h : (match fd.code with
    | .ref _ => true
    | _ => false) = true := h
  split at h
  · rename_i c q
    exact ⟨c, q⟩
  · cases h
structure ErrK (P : Program) (K : PySem.W.Frag) (x : Str) (fs : List Str) (d : DefD) : Prop where
  k : ∃ cc cda, D7X.ExK P K (ga K x) (fAd K (x, some "__init__")) cc cda d.qual d.params d.body d.scope
  no : ∀ f ∈ fs, PySem.W.findIn K (.ref (ga K x)) f = some none
  kp : PySem.W.keepIn K (.ref (ga K x)) = true
  ex : PySem.W.subIn K (.ref (ga K x)) (.type "BaseException") = some true
  ty : PySem.W.typeIn K (.ref (ga K x)) = some (.type "type")
theorem errK_of {P : Program} {K : PySem.W.Frag} {file x : Str} {fs : List Str} {q : DefC} (h : errB file x fs K = true) (hf : P.main.file = file) (hd : q.adr K = fAd K (x, some "__init__")) (hn : q.d.name = "__init__") (hdf : q.d.dfl = []) (hq : q.clo = [("__class__" : Str)]) (e : fnC K (q.adr K) = q.val) (c : q.ok K = true) : ErrK P K x fs q.d := by
  obtain ⟨h1, h⟩ := ba h
  obtain ⟨h2, h⟩ := ba h
  obtain ⟨h3, h⟩ := ba h
  obtain ⟨h4, h⟩ := ba h
  obtain ⟨h5, h⟩ := ba h
  obtain ⟨h6, h⟩ := ba h
  obtain ⟨h7, h⟩ := ba h
  obtain ⟨h8, h⟩ := ba h
  obtain ⟨h9, h⟩ := ba h
  obtain ⟨h10, h⟩ := ba h
  obtain ⟨h11, h⟩ := ba h
  obtain ⟨h12, h⟩ := ba h
  obtain ⟨h13, h14⟩ := ba h
  obtain ⟨cc, oc, od, dV, kV, doc, pm, an, cdv, ct, osl, lk, hcd, hz⟩ := DefC.fun1 hq e c
  rw [hz hdf] at lk
  rw [hd] at lk
  rw [hn] at lk
  refine ⟨⟨closA K (x, some "__init__"), codeOf K (x, some "__init__"), exClsB_ok h1, eqO_ok h2, eqO_ok h3, of_decide_eq_true h4, eqO_ok h5, of_decide_eq_true h6, of_decide_eq_true h7, eqO_ok h8, ?_, ?_, ?_⟩, fun f hf => eqO_ok (List.all_eq_true.mp h11 f hf), h12, of_decide_eq_true h13, of_decide_eq_true h14⟩
  · unfold cellB at h9
    split at h9
    · rename_i a b C' s q
      rw [beq_iff_eq.mp h9] at q
      exact ⟨_, _, _, q⟩
    · cases h9
  · obtain ⟨_, h10⟩ := ba h10
    split at h10
    · rename_i a b vs s q
      split at h10
      · rename_i f t q2
        refine ⟨_, _, vs, _, f, t, q, q2, ?_⟩
        rw [hf]
        exact h10
      · cases h10
    · cases h10
  · obtain ⟨h10, _⟩ := ba h10
    have e1 : closA K (x, some "__init__") = cc := by
      unfold closA
      rw [lk]
      rfl
    have e2 : cdv = .ref (codeOf K (x, some "__init__")) := by
      obtain ⟨cd, hc⟩ := ref_of lk h10
      have hc : cdv = .ref cd := hc
      rw [hc] at lk ⊢
      unfold codeOf
      rw [lk]
    rw [e2] at lk hcd
    rw [e1]
    exact ⟨_, _, _, _, _, _, _, _, lk, hcd⟩
/-! isinstance of data -/
def insB (x : Str) : Fb := fun K => eqO (PySem.W.findIn K (.ref (ga K x)) "__class__") (some (some (.builtin "object.__class__"))) && (eqO (PySem.W.specialIn K (.builtin "object.__class__") "__get__") (some (some (.builtin "getset_descriptor.__get__"))) &&
  (decide (PySem.W.takesIn K (.builtin "object.__class__") = some true) && (decide (PySem.W.mroIn K (ga K x) (.type "object") = some true) &&
  (((["int", "bool", "tuple", "list", "str", "dict"] : List String).all fun T => decide (PySem.W.kitOne K (.ref (ga K x)) (.type T) = some false)) && ((["NoneType", "int", "bool", "tuple", "list", "str", "dict", "set"] : List String).all fun T => decide (PySem.W.kitOne K (.type T) (.ref (ga K x)) = some false))))))
theorem ins_ok {K : PySem.W.Frag} {x : Str} (cl : Cls K (ga K x)) (h : insB x K = true) : InsOk K (ga K x) := by
  obtain ⟨h1, h⟩ := ba h
  obtain ⟨h2, h⟩ := ba h
  obtain ⟨h3, h⟩ := ba h
  obtain ⟨h4, h⟩ := ba h
  obtain ⟨h5, h6⟩ := ba h
  exact ⟨cl, eqO_ok h1, eqO_ok h2, of_decide_eq_true h3, of_decide_eq_true h4, fun T hT => of_decide_eq_true (List.all_eq_true.mp h5 T hT), fun T hT => of_decide_eq_true (List.all_eq_true.mp h6 T hT)⟩
/-! _law_heard -/
def excCB (K : PySem.W.Frag) (C : Addr) : Bool := eqO (PySem.W.findIn K (.ref C) "__getattribute__") (some (some (.builtin "BaseException.__getattribute__"))) && (eqO (PySem.W.findIn K (.ref C) "__getattr__") (some none) && (decide (PySem.W.subIn K (.ref C) (.type "BaseException") = some true) && (PySem.W.hasDictIn K C &&
  (eqO (PySem.W.findIn K (.ref C) "__class__") (some (some (.builtin "object.__class__"))) && (eqO (PySem.W.specialIn K (.builtin "object.__class__") "__get__") (some (some (.builtin "getset_descriptor.__get__"))) && (decide (PySem.W.takesIn K (.builtin "object.__class__") = some true) && decide (PySem.W.mroIn K C (.type "object") = some true)))))))
theorem excC_ok {K : PySem.W.Frag} {C : Addr} (h : excCB K C = true) : ExcC K C := by
  obtain ⟨h1, h⟩ := ba h
  obtain ⟨h2, h⟩ := ba h
  obtain ⟨h3, h⟩ := ba h
  obtain ⟨h4, h⟩ := ba h
  obtain ⟨h5, h⟩ := ba h
  obtain ⟨h6, h⟩ := ba h
  obtain ⟨h7, h8⟩ := ba h
  exact ⟨eqO_ok h1, eqO_ok h2, of_decide_eq_true h3, h4, eqO_ok h5, eqO_ok h6, of_decide_eq_true h7, of_decide_eq_true h8⟩
def heardB : Fb := fun K => excCB K (ga K "BadArgument") && (excCB K (ga K "RoundAbout") && (excCB K (ga K "TooMany") &&
  ((([("BadArgument", "BadArgument", true), ("RoundAbout", "BadArgument", false), ("RoundAbout", "RoundAbout", true), ("TooMany", "BadArgument", false), ("TooMany", "RoundAbout", false), ("TooMany", "TooMany", true)] : List (Str × Str × Bool)).all fun q => decide (PySem.W.exmOne K (.ref (ga K q.1)) (.ref (ga K q.2.1)) = some q.2.2)) &&
  ((([("BadArgument", "RoundAbout", false), ("BadArgument", "TooMany", false), ("RoundAbout", "TooMany", false), ("BadArgument", "DueError", true), ("RoundAbout", "DueError", true), ("TooMany", "DueError", true)] : List (Str × Str × Bool)).all fun q => decide (PySem.W.kitOne K (.ref (ga K q.1)) (.ref (ga K q.2.1)) = some q.2.2)) &&
  (((["BadArgument", "RoundAbout", "TooMany"] : List Str).all fun x => decide (PySem.W.kitOne K (.ref (ga K x)) (.type "ValueError") = some true)) &&
  ((([("BadArgument", "name"), ("RoundAbout", "cycle"), ("TooMany", "things"), ("TooMany", "most")] : List (Str × Str)).all fun q => eqO (PySem.W.findIn K (.ref (ga K q.1)) q.2) (some none))))))))
theorem heard_ok {K : PySem.W.Frag} {mg : Str → Option Value} (gB : mg "BadArgument" = some (.ref (ga K "BadArgument"))) (gR : mg "RoundAbout" = some (.ref (ga K "RoundAbout"))) (gT : mg "TooMany" = some (.ref (ga K "TooMany"))) (gD : mg "DueError" = some (.ref (ga K "DueError"))) (h : heardB K = true) :
    HeardF K mg (ga K "BadArgument") (ga K "RoundAbout") (ga K "TooMany") (ga K "DueError") := by
  obtain ⟨h1, h⟩ := ba h
  obtain ⟨h2, h⟩ := ba h
  obtain ⟨h3, h⟩ := ba h
  obtain ⟨h4, h⟩ := ba h
  obtain ⟨h5, h⟩ := ba h
  obtain ⟨h6, h7⟩ := ba h
  have e4 := fun q hq => of_decide_eq_true (List.all_eq_true.mp h4 q hq)
  have e5 := fun q hq => of_decide_eq_true (List.all_eq_true.mp h5 q hq)
  have e6 := fun q hq => of_decide_eq_true (List.all_eq_true.mp h6 q hq)
  have e7 := fun q hq => eqO_ok (List.all_eq_true.mp h7 q hq)
  exact ⟨gB, gR, gT, gD, excC_ok h1, excC_ok h2, excC_ok h3, e4 ("BadArgument", "BadArgument", true) (by simp), e4 ("RoundAbout", "BadArgument", false) (by simp), e4 ("RoundAbout", "RoundAbout", true) (by simp), e4 ("TooMany", "BadArgument", false) (by simp), e4 ("TooMany", "RoundAbout", false) (by simp), e4 ("TooMany", "TooMany", true) (by simp),
    e5 ("BadArgument", "RoundAbout", false) (by simp), e5 ("BadArgument", "TooMany", false) (by simp), e5 ("RoundAbout", "TooMany", false) (by simp), e5 ("BadArgument", "DueError", true) (by simp), e5 ("RoundAbout", "DueError", true) (by simp), e5 ("TooMany", "DueError", true) (by simp),
    e6 "BadArgument" (by simp), e6 "RoundAbout" (by simp), e6 "TooMany" (by simp), e7 ("BadArgument", "name") (by simp), e7 ("RoundAbout", "cycle") (by simp), e7 ("TooMany", "things") (by simp), e7 ("TooMany", "most") (by simp)⟩
/-! properties, code objects -/
def propB (x m : Str) : Fb := fun K => eqO (PySem.W.findIn K (.ref (ga K x)) m) (some (some (.ref (ma K (ga K x) m)))) && (eqO (PySem.W.specialIn K (.ref (ma K (ga K x) m)) "__get__") (some (some (.builtin "property.__get__"))) && (decide (PySem.W.takesIn K (.ref (ma K (ga K x) m)) = some true) &&
  (match PySem.W.recIn K (ma K (ga K x) m) "property" with
    | some (.ref _ :: _) => true
    | _ => false)))
theorem prop_ok {K : PySem.W.Frag} {x m : Str} (h : propB x m K = true) : PropOf K (ga K x) m (ma K (ga K x) m) (getA K x m) := by
  obtain ⟨h1, h⟩ := ba h
  obtain ⟨h2, h⟩ := ba h
  obtain ⟨h3, h4⟩ := ba h
  refine ⟨eqO_ok h1, eqO_ok h2, of_decide_eq_true h3, ?_⟩
  unfold getA
  split at h4
  · rename_i g r q
    rw [q]
    exact ⟨r, rfl⟩
  · cases h4
def kdsB (p : Fp) : Fb := fun K => match K.lookup (fAd K p) with
  | some ⟨_, _, .func fd, _⟩ => PySem.W.kdsCode K fd.code
  | _ => false
theorem kds_ok {K : PySem.W.Frag} {p : Fp} (h : kdsB p K = true) {oc od fd sl} (e : K.lookup (fAd K p) = some ⟨oc, od, .func fd, sl⟩) : PySem.W.kdsCode K fd.code = true := by
  unfold kdsB at h
  rw [e] at h
  exact h
/-! a tuple found by a path (a default) -/
def tupAtB (a : PySem.W.Frag → Addr) (vs : List Dv) : Fb := fun K => match K.lookup (a K) with
  | some ⟨.type c, _, .seq its _, _⟩ => decide (c = "tuple") && (decide (its.size ≤ sizeLine) && relAll (vs.map (Dv.v K)) its.toList)
  | _ => false
theorem tupAt_ok {K : PySem.W.Frag} {a : PySem.W.Frag → Addr} {vs : List Dv} (h : tupAtB a vs K = true) (H : Hp) : SqT K H (a K) (vs.map (Dv.v K)) := by
  unfold tupAtB at h
  cases q : K.lookup (a K) with
  | none =>
    rw [q] at h
    cases h
  | some o =>
    obtain ⟨oc, od, dt, osl⟩ := o
    rw [q] at h
    cases oc with
    | type c =>
      cases dt with
      | seq its n =>
        obtain ⟨h1, h2⟩ := ba (show (decide (c = "tuple") && (decide (its.size ≤ sizeLine) && relAll (vs.map (Dv.v K)) its.toList)) = true from h)
        obtain ⟨h3, h4⟩ := ba h2
        exact .inr ⟨_, its, n, q, congrArg Value.type (of_decide_eq_true h1), rfl, of_decide_eq_true h3, relAll_ok h4⟩
      | _ => cases h
    | _ => cases dt <;> cases h
theorem tupAt_nil {K : PySem.W.Frag} {a : PySem.W.Frag → Addr} (h : tupAtB a [] K = true) (g : Gh) : Rep K g (.ref (a K)) (.tup []) := .tup (tupAt_ok h g.F) .nil
end D7
/-! what the defs are to do, told of data -/
namespace D7
open PySem PySem.Spec PyProof.Rows L2
def topS (i : Nat) : Stmt := PySem.Challenge.pw_duethread_k00_lists_and_round_ways.main.body.getD i (.Pass ⟨0, 0, 0, 0⟩)
/-- the addresses of the classes -/
structure Ad where
  DueError : Addr
  BadArgument : Addr
  RoundAbout : Addr
  TooMany : Addr
  Todo : Addr
/-! ### plain things -/
abbrev Pr := Int × Int
def pD (p : Pr) : D := .tup [.int p.1, .int p.2]
def nD (ps : List Pr) : D := .tup (ps.map pD)
def iD (ns : List Int) : D := .tup (ns.map .int)
def numD (v : D) (l u : Int) : Bool := match v with
  | .int i => decide (l ≤ i) && decide (i ≤ u)
  | _ => false
/-- a right pair -/
def okP (n : Int) (p : Pr) : Prop := p.1 ≠ p.2 ∧ 0 ≤ p.1 ∧ p.1 < n ∧ 0 ≤ p.2 ∧ p.2 < n
def okPB (n : Int) (p : Pr) : Bool := decide (p.1 ≠ p.2 ∧ 0 ≤ p.1 ∧ p.1 < n ∧ 0 ≤ p.2 ∧ p.2 < n)
def pairD (n : Int) : D → Option Pr
  | .tup [.int x, .int y] => if okPB n (x, y) = true then some (x, y) else none
  | _ => none
def pairsD (n : Int) : List D → Option (List Pr)
  | [] => some []
  | d :: ds => (pairD n d).bind fun p => (pairsD n ds).map (p :: ·)
def ltP (p q : Pr) : Bool := HT.lexLt [p.1, p.2] [q.1, q.2]
def chainB : List Pr → Bool
  | [] => true
  | [_] => true
  | p :: q :: r => ltP p q && chainB (q :: r)
def needsD (v : D) (n : Int) : Option (List Pr) := match v with
  | .tup ds => (pairsD n ds).bind fun ps => if chainB ps = true then some ps else none
  | _ => none
structure Sound (n : Int) (ps : List Pr) : Prop where
  ok : ∀ p ∈ ps, okP n p
  ch : chainB ps = true
/-- a way along the pairs -/
def Way (ps : List Pr) : List Int → Prop
  | [] => True
  | [_] => True
  | x :: y :: r => (x, y) ∈ ps ∧ Way ps (y :: r)
structure Round (ps : List Pr) (c : List Int) : Prop where
  ne : c ≠ []
  way : Way ps c
  back : ∀ x y, c.getLast? = some x → c.head? = some y → (x, y) ∈ ps
/-- c comes no later than c' -/
def Before (c c' : List Int) : Prop := c.length < c'.length ∨ c.length = c'.length ∧ HT.lexLt c' c = false
def ShortFrom (ps : List Pr) (b : Int) (c : List Int) : Prop :=
  (c = [] ∧ ∀ c', Round ps c' → c'.head? ≠ some b) ∨ (Round ps c ∧ c.head? = some b ∧ ∀ c', Round ps c' → c'.head? = some b → Before c c')
def FirstCyc (ps : List Pr) (c : List Int) : Prop := (c = [] ∧ ∀ c', ¬ Round ps c') ∨ (Round ps c ∧ ∀ c', Round ps c' → Before c c')
def Rings (ps : List Pr) (rs : List (List Int)) : Prop := (rs = [] ∧ ∀ c', ¬ Round ps c') ∨ ∃ c rest, rs = c :: rest ∧ Round ps c ∧ ∀ c', Round ps c' → Before c c'
def Upward (ps : List Pr) : Prop := ∃ f : Int → Int, ∀ p ∈ ps, f p.1 < f p.2
def maskStep (found : List Int) (p : Pr) : List Int := found.set p.2.toNat (Builtin.bitOr (Builtin.bitOr (found.getD p.2.toNat 0) (found.getD p.1.toNat 0)) (1 * 2 ^ p.1.toNat))
def masksL (n : Nat) (ps : List Pr) : List Int := (List.range n).foldl (fun f _ => ps.foldl maskStep f) (List.replicate n 0)
def todoF (n : Int) (ps : List Pr) : List (Str × D) := [(("_many" : Str), .int n), (("_needs" : Str), nD ps), (("_ahead" : Str), iD (masksL n.toNat ps)), (("_things" : Str), .tup (rangeD 0 n.toNat))]
/-! ### promises -/
def ds_is_number (a : Ad) : DSp := fun args q _ => ∃ v l u, args = [v, .int l, .int u] ∧ kindD [a.Todo] v = true ∧ q (.bl (numD v l u))
def ds_check (a : Ad) : DSp := fun args q ex => ∃ b x, args = [.bl b, .str x] ∧ x.length ≤ 1000 ∧ if b = true then q .non else ex a.BadArgument [(("name" : Str), .str x)]
def ds_are_needs (a : Ad) : DSp := fun args q _ => ∃ v n, args = [v, .int n] ∧ okD 50 v = true ∧ q (.bl (needsD v n).isSome)
def ds_shortest_round (a : Ad) : DSp := fun args q _ => ∃ n ps b, args = [.int n, nD ps, .int b] ∧ Sound n ps ∧ n ≤ 24 ∧ 0 ≤ b ∧ b < n ∧ ∀ c, ShortFrom ps b c → q (iD c)
def ds_first_cycle (a : Ad) : DSp := fun args q _ => ∃ n ps, args = [.int n, nD ps] ∧ Sound n ps ∧ 0 ≤ n ∧ n ≤ 24 ∧ ∀ c, FirstCyc ps c → q (iD c)
def ds_Todo__masks (a : Ad) : DSp := fun args q _ => ∃ fs n ps, args = [.obj a.Todo fs] ∧ fs.lookup ("_many" : Str) = some (.int n) ∧ fs.lookup ("_needs" : Str) = some (nD ps) ∧ Sound n ps ∧ 0 ≤ n ∧ n ≤ 24 ∧ q (iD (masksL n.toNat ps))
def ds_Todo_many (a : Ad) : DSp := fun args q _ => ∃ n ps, args = [.obj a.Todo (todoF n ps)] ∧ q (.int n)
def ds_Todo_needs (a : Ad) : DSp := fun args q _ => ∃ n ps, args = [.obj a.Todo (todoF n ps)] ∧ q (nD ps)
/-- Todo(many, needs): made, or what is told -/
def di_Todo (a : Ad) : DSi := fun args q ex => ∃ m nd, args = [m, nd] ∧ kindD [a.Todo] m = true ∧ okD 50 nd = true ∧
  ((numD m 0 24 = false ∧ ex a.BadArgument [(("name" : Str), .str "many")]) ∨ ∃ n, m = .int n ∧ 0 ≤ n ∧ n ≤ 24 ∧
    ((needsD nd n = none ∧ ex a.BadArgument [(("name" : Str), .str "needs")]) ∨ ∃ ps, needsD nd n = some ps ∧
      ((∀ c, ¬ Round ps c) → q (todoF n ps)) ∧ ∀ c, Round ps c → (∀ c', Round ps c' → Before c c') → ex a.RoundAbout [(("cycle" : Str), iD c)]))
def ds_is_todo (a : Ad) : DSp := fun args q _ => ∃ v, args = [v] ∧ kindD [a.Todo] v = true ∧ q (.bl (isC a.Todo v))
def ds__law_taken (a : Ad) : DSp := fun args q _ => ∃ m : Int, args = [.row, .int m] ∧ 0 < m ∧ m < 2 ^ 60 ∧ ∀ r, 0 ≤ r → r < m → q (.int r)
def ds__law_pick (a : Ad) : DSp := fun args q _ => ∃ xs, args = [.row, .lst xs] ∧ 0 < xs.length ∧ xs.length < 2 ^ 60 ∧ ∀ d ∈ xs, q d
def ds__law_pairs (a : Ad) : DSp := fun args q _ => ∃ n, args = [.row, .int n] ∧ 0 ≤ n ∧ n ≤ 24 ∧ ∀ ps, Sound n ps → q (nD ps)
def ds__law_shuffled (a : Ad) : DSp := fun args q _ => ∃ ns : List Int, args = [.row, .lst (ns.map .int)] ∧ ns.length ≤ 1000 ∧ ∀ ms : List Int, ms.Perm ns → q (.lst (ms.map .int))
def ds__law_needs (a : Ad) : DSp := fun args q _ => ∃ n, args = [.row, .int n] ∧ 0 ≤ n ∧ n ≤ 24 ∧ ∀ ps, Sound n ps → Upward ps → q (nD ps)
def ds__law_rings (a : Ad) : DSp := fun args q _ => ∃ n ps, args = [.int n, nD ps] ∧ Sound n ps ∧ 0 ≤ n ∧ n ≤ 6 ∧ ∀ rs, Rings ps rs → q (.lst (rs.map iD))
/-- found against due, by values and kinds -/
def alikeD : D → D → Bool
  | found, .tup ds => match found with
    | .tup es => alikeDs es ds
    | _ => false
  | found, .lst ds => match found with
    | .lst es => alikeDs es ds
    | _ => false
  | found, .str x => match found with
    | .str y => y == x
    | _ => false
  | found, .non => match found with
    | .non => true
    | _ => false
  | found, .int i => match found with
    | .int j => j == i
    | _ => false
  | found, .bl k => match found with
    | .bl j => j == k
    | _ => false
  | _, _ => false
where alikeDs : List D → List D → Bool
  | [], [] => true
  | x :: xs, y :: ys => alikeD x y && alikeDs xs ys
  | _, _ => false
def ds__law_alike (a : Ad) : DSp := fun args q _ => ∃ found due, args = [found, due] ∧ okD 12 due = true ∧ okD 50 found = true ∧ q (.bl (alikeD found due))
def ds__law_refused (a : Ad) : DSp := fun args q _ => ∃ n : Int, args = [.row, .int n] ∧ 9 ≤ n ∧ n ≤ 24 ∧ q (.bl true)
end D7
namespace D7
open PySem PySem.Spec PyProof.Rows L2
/-- what the module's names are -/
structure ZF (P : Program) (w : World) (c : Cfg) (mg : Str → Option Value) (base : Heap) (a : Ad) : Prop where
  ins : ∀ C ∈ [a.Todo], InsOk c.K C
  BadArgument : mg "BadArgument" = some (.ref a.BadArgument)
  MOST : ∃ t, mg "MOST" = some (.int 24 t)
  RoundAbout : mg "RoundAbout" = some (.ref a.RoundAbout)
  Todo : mg "Todo" = some (.ref a.Todo)
  all : mg "all" = none
  bool : mg "bool" = none
  cTodo : Cls c.K a.Todo
  dict : mg "dict" = none
  eBadArgument : ErrF P w c mg a.BadArgument "name"
  eRoundAbout : ErrF P w c mg a.RoundAbout "cycle"
  int : mg "int" = none
  isinstance : mg "isinstance" = none
  len : mg "len" = none
  list : mg "list" = none
  naTodo_ahead : NoAttr c.K a.Todo "_ahead"
  naTodo_many : NoAttr c.K a.Todo "_many"
  naTodo_needs : NoAttr c.K a.Todo "_needs"
  naTodo_things : NoAttr c.K a.Todo "_things"
  range : mg "range" = none
  sorted : mg "sorted" = none
  str : mg "str" = none
  tuple : mg "tuple" = none
  zip : mg "zip" = none

/-! ### is_number: room 1 -/
abbrev st_is_number : Stmt := topS 7
abbrev N_is_number : List Str := ["value", "least", "most"]
theorem sc_is_number : FnScope N_is_number ["value", "least", "most"] (defScope st_is_number) := ⟨rfl, rfl, rfl, by decide +kernel, rfl, by decide +kernel, by decide +kernel⟩
def t_is_number (a : Ad) : DS :=
  sRet (dAndV (dIsT [a.Todo] (isT "int") (hSl 0)) (dAndV (dNotV (dIsT [a.Todo] (isT "bool") (hSl 0))) (dChain (kI0 fun i j => .bl (decide (i ≤ j))) (kI0 fun i j => .bl (decide (i ≤ j))) (hSl 1) (hSl 0) (hSl 2))))
theorem b_is_number {P : Program} {w : World} {c : Cfg} {mg : Str → Option Value} {base : Heap} {a : Ad} {A : Around} {outer : List Env} {s : Shared} {H : Hp} {E : XK} {f : Addr} {cd : Value} (Z : ZF P w c mg base a)
    (hr : Room (0) (A.deeper (envOfC "is_number" (defScope st_is_number) s.heap.objs.size f cd))) : PDSs (cxOf (L2.CX P w) P w c.K mg base N_is_number "is_number" (defScope st_is_number) f cd A outer s H E) c E (defBody st_is_number) (t_is_number a) :=
  dss_one (ds_ret (pd_and (pd_isT (OC := [a.Todo]) (T := "int") rfl Z.ins (by decide) (ph_sl (pv 0)) rfl Z.isinstance rfl Z.int boot_int) (pd_and (pd_not (pd_isT (OC := [a.Todo]) (T := "bool") rfl Z.ins (by decide) (ph_sl (pv 0)) rfl Z.isinstance rfl Z.bool boot_bool)) (pd_one (pd_chain op_le op_le opd_B0 opd_B0 (ph_sl (pv 1)) (ph_sl (pv 0)) (ph_sl (pv 2)))))))

/-! ### check: room 3 -/
abbrev st_check : Stmt := topS 8
abbrev N_check : List Str := ["is_right", "name"]
theorem sc_check : FnScope N_check ["is_right", "name"] (defScope st_check) := ⟨rfl, rfl, rfl, by decide +kernel, rfl, by decide +kernel, by decide +kernel⟩
def t_check (a : Ad) : DS :=
  sIf (dNot (dTru (hSl 0)))
  (sRaise a.BadArgument "name" (dVar 1))
  (sNx)
theorem b_check {P : Program} {w : World} {c : Cfg} {mg : Str → Option Value} {base : Heap} {a : Ad} {A : Around} {outer : List Env} {s : Shared} {H : Hp} {E : XK} {f : Addr} {cd : Value} (Z : ZF P w c mg base a)
    (hr : Room (2) (A.deeper (envOfC "check" (defScope st_check) s.heap.objs.size f cd))) : PDSs (cxOf (L2.CX P w) P w c.K mg base N_check "check" (defScope st_check) f cd A outer s H E) c E (defBody st_check) (t_check a) :=
  have htk := takes_of (X := cxOf (L2.CX P w) P w c.K mg base N_check "check" (defScope st_check) f cd A outer s H E) rfl rfl rfl rfl
  dss_one (ds_if (pdt_not (pdt_tru rfl (ph_sl (pv 0))))
    (dss_one (ds_raise' rfl rfl htk Z.eBadArgument (hr.mono (by omega)) (pd_var (pv 1)) rfl Z.BadArgument))
    (dss_nil))

/-! ### are_needs: room 2 -/
abbrev st_are_needs : Stmt := topS 12
abbrev N_are_needs : List Str := ["value", "many", "pair", "one", "other"]
theorem sc_are_needs : FnScope N_are_needs ["value", "many"] (defScope st_are_needs) := ⟨rfl, rfl, rfl, by decide +kernel, rfl, by decide +kernel, by decide +kernel⟩
def t_are_needs_b1 (a : Ad) : DS :=
  sSeq (sIf (dOr (dNot (dTru (hOf (dIsT [a.Todo] (isT "tuple") (hSl 2))))) (dOr (dTest (dOp kNe (hOf (dCb kLen (hCons (hSl 2) (hNil)))) (hOf (dC (.int 2))))) (dTest (dOp kEq (hOf (dOp kIx (hSl 2) (hOf (dC (.int 0))))) (hOf (dOp kIx (hSl 2) (hOf (dC (.int 1)))))))))
  (sRet (dC (.bl false)))
  (sNx))
  (sIf (dOr (dNot (dTru (hOf (dCall (ds_is_number a) [] (dCons (dOp kIx (hSl 2) (hOf (dC (.int 0)))) (dCons (dC (.int 0)) (dCons (dOp (kI0 fun i j => .int (i - j)) (hSl 1) (hOf (dC (.int 1)))) (dNil)))))))) (dNot (dTru (hOf (dCall (ds_is_number a) [] (dCons (dOp kIx (hSl 2) (hOf (dC (.int 1)))) (dCons (dC (.int 0)) (dCons (dOp (kI0 fun i j => .int (i - j)) (hSl 1) (hOf (dC (.int 1)))) (dNil)))))))))
  (sRet (dC (.bl false)))
  (sNx))
def t_are_needs_i1 (a : Ad) : DT :=
  dYes
def t_are_needs_e1 (a : Ad) : DW :=
  dOp kLt (hSl 3) (hSl 4)
def t_are_needs (a : Ad) : DS :=
  sSeq (sIf (dNot (dTru (hOf (dIsT [a.Todo] (isT "tuple") (hSl 0)))))
  (sRet (dC (.bl false)))
  (sNx))
  (sSeq (sFor (iSeq (dVar 0)) (gNm 2)
  (t_are_needs_b1 a))
  (sRet (dTruG false (iZipD (dCons (dVar 0) (dCons (dCut (hSl 0) (oSome (dC (.int 1))) (oNone)) (dNil)))) (gTp 2 (gC0 (gNm 3) (gC0 (gNm 4) (gN0)))) (t_are_needs_i1 a) (t_are_needs_e1 a) [3, 4])))
theorem b_are_needs {P : Program} {w : World} {c : Cfg} {mg : Str → Option Value} {base : Heap} {a : Ad} {A : Around} {outer : List Env} {s : Shared} {H : Hp} {E : XK} {f : Addr} {cd : Value} (Z : ZF P w c mg base a) (f3_is_number : Callee P w c mg base "is_number" 1 ["value", "least", "most"] (ds_is_number a) []) {cg Pg : Addr} (hG : GenF c mg base cd cg Pg)
    (hr : Room (1) (A.deeper (envOfC "are_needs" (defScope st_are_needs) s.heap.objs.size f cd))) : PDSs (cxOf (L2.CX P w) P w c.K mg base N_are_needs "are_needs" (defScope st_are_needs) f cd A outer s H E) c E (defBody st_are_needs) (t_are_needs a) :=
  have htk := takes_of (X := cxOf (L2.CX P w) P w c.K mg base N_are_needs "are_needs" (defScope st_are_needs) f cd A outer s H E) rfl rfl rfl rfl
  have hpx := passes_call htk (fun _ _ _ _ h => h)
  have hpo := passes_of (X := cxOf (L2.CX P w) P w c.K mg base N_are_needs "are_needs" (defScope st_are_needs) f cd A outer s H E) rfl
  have S := sc_are_needs
  dss_cons (ds_if (pdt_not (pdt_tru rfl (ph_of (pd_isT (OC := [a.Todo]) (T := "tuple") rfl Z.ins (by decide) (ph_sl (pv 0)) rfl Z.isinstance rfl Z.tuple boot_tuple))))
    (dss_one (ds_ret (pd_bl)))
    (dss_nil))
    (dss_cons (ds_for hpo rfl (pdi_seq rfl (pd_var (pv 0))) (pdg_name S.nd rfl (by first | exact .inl rfl | exact .inr rfl))
    (dss_cons (ds_if (PW.pt (pdw_or (pdt_not (pdt_tru rfl (ph_of (pd_isT (OC := [a.Todo]) (T := "tuple") rfl Z.ins (by decide) (ph_sl (pv 2)) rfl Z.isinstance rfl Z.tuple boot_tuple)))) (pdw_or (pdt_cmp (op_neD hr.units) opd_ne (ph_of (pd_cb cr_lenD cd_len rfl Z.len boot_len (phs_cons (ph_sl (pv 2)) (phs_nil)))) (ph_of (pd_int)) rfl) (pdw_or1 (pdt_cmp (op_eqD hr.units) opd_eq (ph_of (pd_ix rfl (ph_sl (pv 2)) (ph_of (pd_int)))) (ph_of (pd_ix rfl (ph_sl (pv 2)) (ph_of (pd_int)))) rfl)))))
    (dss_one (ds_ret (pd_bl)))
    (dss_nil))
    (dss_one (ds_if (PW.pt (pdw_or (pdt_not (pdt_tru rfl (ph_of (pd_fn f3_is_number (hr.mono (by omega)) rfl hpx (pda_cons (pd_ix rfl (ph_sl (pv 2)) (ph_of (pd_int))) (pda_cons (pd_int) (pda_cons (pd_op op_sub opd_I0 (ph_sl (pv 1)) (ph_of (pd_int))) (pda_nil)))))))) (pdw_or1 (pdt_not (pdt_tru rfl (ph_of (pd_fn f3_is_number (hr.mono (by omega)) rfl hpx (pda_cons (pd_ix rfl (ph_sl (pv 2)) (ph_of (pd_int))) (pda_cons (pd_int) (pda_cons (pd_op op_sub opd_I0 (ph_sl (pv 1)) (ph_of (pd_int))) (pda_nil)))))))))))
    (dss_one (ds_ret (pd_bl)))
    (dss_nil)))))
    (dss_one (ds_ret (pd_allG (own := [("one", 3), ("other", 4)]) (k := 0) rfl hG.mem hG.noT (hr.mono (by omega)) rfl Z.all boot_all hG.tab hG.code S.nd (genOk_by (by rfl)) (pdi_zip rfl rfl Z.zip (pda_cons (pd_var (pv 0)) (pda_cons (pd_cut rfl (ph_sl (pv 0)) (pdo_some (pd_int)) (pdo_none)) (pda_nil)))) (fun A2 s2 H2 C2 code2 cl2 fp2 hr2 => pdg_tup rfl rfl (pdgs_cons (pdg_name S.nd rfl (by first | exact .inl rfl | exact .inr rfl)) (pdgs_cons (pdg_name S.nd rfl (by first | exact .inl rfl | exact .inr rfl)) (pdgs_nil)))) (fun A2 s2 H2 C2 code2 cl2 fp2 hr2 => pdts_nil) (fun A2 s2 H2 C2 code2 cl2 fp2 hr2 => pd_cmp (op_ltD hr2.units0) opd_lt (ph_sl (pv 3)) (ph_sl (pv 4)) rfl) (by decide)))))

/-! ### shortest_round: room 1 -/
abbrev st_shortest_round : Stmt := topS 13
abbrev N_shortest_round : List Str := ["many", "needs", "begin", "later", "rows", "seen", "longer", "row", "thing", "other", "one"]
theorem sc_shortest_round : FnScope N_shortest_round ["many", "needs", "begin"] (defScope st_shortest_round) := ⟨rfl, rfl, rfl, by decide +kernel, rfl, by decide +kernel, by decide +kernel⟩
def t_shortest_round_i1 (a : Ad) : DT :=
  dTest (dOp kEq (hSl 10) (hSl 8))
def t_shortest_round_e1 (a : Ad) : DW :=
  dVar 9
def t_shortest_round_i2 (a : Ad) : DT :=
  dYes
def t_shortest_round_e2 (a : Ad) : DW :=
  dOf (cLc (iSeq (dVar 1)) (gTp 2 (gC0 (gNm 10) (gC0 (gNm 9) (gN0)))) (t_shortest_round_i1 a) (t_shortest_round_e1 a) [10, 9])
def t_shortest_round_b1 (a : Ad) : DS :=
  sSeq (sIf (dTest (dOp kEq (hSl 9) (hSl 2)))
  (sRet (dVar 7))
  (sNx))
  (sIf (dTest (dOp (kInS true) (hSl 9) (hSl 5)))
  (sSeq (sDrop (dMut "set" 5 kSAdd (dCons (dVar 9) (dNil))))
  (sDrop (dMut "list" 6 kAppend (dCons (dOp kAdd (hSl 7) (hOf (dTup (dCons (dVar 9) (dNil))))) (dNil)))))
  (sNx))
def t_shortest_round_b2 (a : Ad) : DS :=
  sFor (iSeq (dOp kIx (hSl 3) (hOf (dOp kIx (hSl 7) (hOf (dUn (kU fun i => -i) (hOf (dC (.int 1))))))))) (gNm 9)
  (t_shortest_round_b1 a)
def t_shortest_round_w1 (a : Ad) : DT :=
  dTru (hSl 4)
def t_shortest_round_b3 (a : Ad) : DS :=
  sSeq (sSet 6 (cLst (dNil)))
  (sSeq (sFor (iSeq (dVar 4)) (gNm 7)
  (t_shortest_round_b2 a))
  (sSet 4 (cOf (dOf (cCb kList (hCons (hSl 6) (hNil)))))))
def t_shortest_round (a : Ad) : DS :=
  sSeq (sSet 3 (cLc (iRng1D (dCons (dVar 0) (dNil))) (gNm 8) (t_shortest_round_i2 a) (t_shortest_round_e2 a) [8]))
  (sSeq (sSet 4 (cOf (dLst (dCons (dTup (dCons (dVar 2) (dNil))) (dNil)))))
  (sSeq (sSet 5 (cSet1 (dVar 2)))
  (sSeq (sWhile (t_shortest_round_w1 a)
  (t_shortest_round_b3 a))
  (sRet (dTup (dNil))))))
theorem b_shortest_round {P : Program} {w : World} {c : Cfg} {mg : Str → Option Value} {base : Heap} {a : Ad} {A : Around} {outer : List Env} {s : Shared} {H : Hp} {E : XK} {f : Addr} {cd : Value} (Z : ZF P w c mg base a) (hcd : PySem.W.kdsCode c.K cd = true)
    (hr : Room (0) (A.deeper (envOfC "shortest_round" (defScope st_shortest_round) s.heap.objs.size f cd))) : PDSs (cxOf (L2.CX P w) P w c.K mg base N_shortest_round "shortest_round" (defScope st_shortest_round) f cd A outer s H E) c E (defBody st_shortest_round) (t_shortest_round a) :=
  have hpo := passes_of (X := cxOf (L2.CX P w) P w c.K mg base N_shortest_round "shortest_round" (defScope st_shortest_round) f cd A outer s H E) rfl
  have S := sc_shortest_round
  dss_cons (ds_setLc (own := [("thing", 8)]) rfl S.nd rfl rfl rfl (pdi_range1 rfl Z.range (pda_cons (pd_var (pv 0)) (pda_nil))) (blkOk_by (by rfl)) (fun s2 H2 C2 cl2 fp2 => pdg_name S.nd rfl (by first | exact .inl rfl | exact .inr rfl)) (fun s2 H2 C2 cl2 fp2 => pdts_nil) (fun s2 H2 C2 cl2 fp2 => pd_ofC (pc_lc (own := [("one", 10), ("other", 9)]) rfl S.nd (pdi_seq rfl (pd_var (pv 1))) (blkOk_by (by rfl)) (fun s2 H2 C2 cl2 fp2 => pdg_tup rfl rfl (pdgs_cons (pdg_name S.nd rfl (by first | exact .inl rfl | exact .inr rfl)) (pdgs_cons (pdg_name S.nd rfl (by first | exact .inl rfl | exact .inr rfl)) (pdgs_nil)))) (fun s2 H2 C2 cl2 fp2 => pdts_one (pdt_cmp (op_eqD hr.units) opd_eq (ph_sl (pv 10)) (ph_sl (pv 8)) rfl)) (fun s2 H2 C2 cl2 fp2 => pd_var (pv 9)) (by decide))) (by decide))
    (dss_cons (ds_set S.nd rfl (by first | exact .inl rfl | exact .inr rfl) (pc_of (pd_lst (pda_cons (pd_tup (pda_cons (pd_var (pv 2)) (pda_nil))) (pda_nil)))))
    (dss_cons (ds_set S.nd rfl (by first | exact .inl rfl | exact .inr rfl) (pc_set1 rfl hcd rfl (pd_var (pv 2))))
    (dss_cons (ds_while hpo (pdt_tru rfl (ph_sl (pv 4)))
    (dss_cons (ds_set S.nd rfl (by first | exact .inl rfl | exact .inr rfl) (pc_lst (pda_nil)))
    (dss_cons (ds_for hpo rfl (pdi_seq rfl (pd_var (pv 4))) (pdg_name S.nd rfl (by first | exact .inl rfl | exact .inr rfl))
    (dss_one (ds_for hpo rfl (pdi_seq rfl (pd_ix rfl (ph_sl (pv 3)) (ph_of (pd_ix rfl (ph_sl (pv 7)) (ph_of (pd_un un_neg und_I (ph_of (pd_int)))))))) (pdg_name S.nd rfl (by first | exact .inl rfl | exact .inr rfl))
    (dss_cons (ds_if (pdt_cmp (op_eqD hr.units) opd_eq (ph_sl (pv 9)) (ph_sl (pv 2)) rfl)
    (dss_one (ds_ret (pd_var (pv 7))))
    (dss_nil))
    (dss_one (ds_if (pdt_cmp (op_notInS hr.units65) opd_notInS (ph_sl (pv 9)) (ph_sl (pv 5)) rfl)
    (dss_cons (ds_expr (pd_add rfl (pv 5) (pda_cons (pd_var (pv 9)) (pda_nil))))
    (dss_one (ds_expr (pd_append rfl (pv 6) (pda_cons (pd_op op_addD opd_add (ph_sl (pv 7)) (ph_of (pd_tup (pda_cons (pd_var (pv 9)) (pda_nil))))) (pda_nil))))))
    (dss_nil)))))))
    (dss_one (ds_set S.nd rfl (by first | exact .inl rfl | exact .inr rfl) (pc_of (pd_ofC (pc_cty cr_listD cl_list rfl Z.list boot_list (phs_cons (ph_sl (pv 6)) (phs_nil))))))))))
    (dss_one (ds_ret (pd_tup (pda_nil)))))))

/-! ### first_cycle: room 2 -/
abbrev st_first_cycle : Stmt := topS 14
abbrev N_first_cycle : List Str := ["many", "needs", "best", "begin", "found"]
theorem sc_first_cycle : FnScope N_first_cycle ["many", "needs"] (defScope st_first_cycle) := ⟨rfl, rfl, rfl, by decide +kernel, rfl, by decide +kernel, by decide +kernel⟩
def t_first_cycle_b1 (a : Ad) : DS :=
  sSeq (sSet 4 (cOf (dCall (ds_shortest_round a) [] (dCons (dVar 0) (dCons (dVar 1) (dCons (dVar 3) (dNil)))))))
  (sIf (dAnd (dTru (hSl 4)) (dOr (dNot (dTru (hSl 2))) (dTest (dOp kLt (hOf (dCb kLen (hCons (hSl 4) (hNil)))) (hOf (dCb kLen (hCons (hSl 2) (hNil))))))))
  (sSet 2 (cOf (dVar 4)))
  (sNx))
def t_first_cycle (a : Ad) : DS :=
  sSeq (sSet 2 (cOf (dTup (dNil))))
  (sSeq (sFor (iRng1D (dCons (dVar 0) (dNil))) (gNm 3)
  (t_first_cycle_b1 a))
  (sRet (dVar 2)))
theorem b_first_cycle {P : Program} {w : World} {c : Cfg} {mg : Str → Option Value} {base : Heap} {a : Ad} {A : Around} {outer : List Env} {s : Shared} {H : Hp} {E : XK} {f : Addr} {cd : Value} (Z : ZF P w c mg base a) (f3_shortest_round : Callee P w c mg base "shortest_round" 1 ["many", "needs", "begin"] (ds_shortest_round a) [])
    (hr : Room (1) (A.deeper (envOfC "first_cycle" (defScope st_first_cycle) s.heap.objs.size f cd))) : PDSs (cxOf (L2.CX P w) P w c.K mg base N_first_cycle "first_cycle" (defScope st_first_cycle) f cd A outer s H E) c E (defBody st_first_cycle) (t_first_cycle a) :=
  have htk := takes_of (X := cxOf (L2.CX P w) P w c.K mg base N_first_cycle "first_cycle" (defScope st_first_cycle) f cd A outer s H E) rfl rfl rfl rfl
  have hpx := passes_call htk (fun _ _ _ _ h => h)
  have hpo := passes_of (X := cxOf (L2.CX P w) P w c.K mg base N_first_cycle "first_cycle" (defScope st_first_cycle) f cd A outer s H E) rfl
  have S := sc_first_cycle
  dss_cons (ds_set S.nd rfl (by first | exact .inl rfl | exact .inr rfl) (pc_of (pd_tup (pda_nil))))
    (dss_cons (ds_for hpo rfl (pdi_range1 rfl Z.range (pda_cons (pd_var (pv 0)) (pda_nil))) (pdg_name S.nd rfl (by first | exact .inl rfl | exact .inr rfl))
    (dss_cons (ds_set S.nd rfl (by first | exact .inl rfl | exact .inr rfl) (pc_of (pd_fn f3_shortest_round (hr.mono (by omega)) rfl hpx (pda_cons (pd_var (pv 0)) (pda_cons (pd_var (pv 1)) (pda_cons (pd_var (pv 3)) (pda_nil)))))))
    (dss_one (ds_if (PW.pt (pdw_and (pdt_tru rfl (ph_sl (pv 4))) (pdw_and1 (PW.pt (pdw_or (pdt_not (pdt_tru rfl (ph_sl (pv 2)))) (pdw_or1 (pdt_cmp (op_ltD hr.units0) opd_lt (ph_of (pd_cb cr_lenD cd_len rfl Z.len boot_len (phs_cons (ph_sl (pv 4)) (phs_nil)))) (ph_of (pd_cb cr_lenD cd_len rfl Z.len boot_len (phs_cons (ph_sl (pv 2)) (phs_nil)))) rfl)))))))
    (dss_one (ds_set S.nd rfl (by first | exact .inl rfl | exact .inr rfl) (pc_of (pd_var (pv 4)))))
    (dss_nil)))))
    (dss_one (ds_ret (pd_var (pv 2)))))

/-! ### Todo._masks: room 1 -/
abbrev st_Todo__masks : Stmt := inClass (topS 15) 1
abbrev N_Todo__masks : List Str := ["self", "found", "turn", "one", "other"]
theorem sc_Todo__masks : FnScope N_Todo__masks ["self"] (defScope st_Todo__masks) := ⟨rfl, rfl, rfl, by decide +kernel, rfl, by decide +kernel, by decide +kernel⟩
def t_Todo__masks_b1 (a : Ad) : DS :=
  sAsg (dOp (kI0 fun i j => .int (Builtin.bitOr i j)) (hOf (dOp (kI0 fun i j => .int (Builtin.bitOr i j)) (hOf (dOp kIx (hSl 1) (hSl 4))) (hOf (dOp kIx (hSl 1) (hSl 3))))) (hOf (dOp (kI CPow fun i j => .int (i * 2 ^ j.toNat)) (hOf (dC (.int 1))) (hSl 3)))) (gSto 1 (hSl 4))
def t_Todo__masks_b2 (a : Ad) : DS :=
  sFor (iSeq (dFld a.Todo "_needs" (hSl 0))) (gTp 2 (gC0 (gNm 3) (gC0 (gNm 4) (gN0))))
  (t_Todo__masks_b1 a)
def t_Todo__masks (a : Ad) : DS :=
  sSeq (sSet 1 (cOp kRep (hOf (dLst (dCons (dC (.int 0)) (dNil)))) (hOf (dFld a.Todo "_many" (hSl 0)))))
  (sSeq (sFor (iRng1D (dCons (dFld a.Todo "_many" (hSl 0)) (dNil))) (gNm 2)
  (t_Todo__masks_b2 a))
  (sRet (dCb kTuple (hCons (hSl 1) (hNil)))))
theorem b_Todo__masks {P : Program} {w : World} {c : Cfg} {mg : Str → Option Value} {base : Heap} {a : Ad} {A : Around} {outer : List Env} {s : Shared} {H : Hp} {E : XK} {f : Addr} {cd : Value} (Z : ZF P w c mg base a)
    (hr : Room (0) (A.deeper (envOfC "Todo._masks" (defScope st_Todo__masks) s.heap.objs.size f cd))) : PDSs (cxOf (L2.CX P w) P w c.K mg base N_Todo__masks "Todo._masks" (defScope st_Todo__masks) f cd A outer s H E) c E (defBody st_Todo__masks) (t_Todo__masks a) :=
  have hpo := passes_of (X := cxOf (L2.CX P w) P w c.K mg base N_Todo__masks "Todo._masks" (defScope st_Todo__masks) f cd A outer s H E) rfl
  have S := sc_Todo__masks
  dss_cons (ds_set S.nd rfl (by first | exact .inl rfl | exact .inr rfl) (pc_op op_rep opl_rep (ph_of (pd_lst (pda_cons (pd_int) (pda_nil)))) (ph_of (pd_fld rfl Z.cTodo Z.naTodo_many (ph_sl (pv 0))))))
    (dss_cons (ds_for hpo rfl (pdi_range1 rfl Z.range (pda_cons (pd_fld rfl Z.cTodo Z.naTodo_many (ph_sl (pv 0))) (pda_nil))) (pdg_name S.nd rfl (by first | exact .inl rfl | exact .inr rfl))
    (dss_one (ds_for hpo rfl (pdi_seq rfl (pd_fld rfl Z.cTodo Z.naTodo_needs (ph_sl (pv 0)))) (pdg_tup rfl rfl (pdgs_cons (pdg_name S.nd rfl (by first | exact .inl rfl | exact .inr rfl)) (pdgs_cons (pdg_name S.nd rfl (by first | exact .inl rfl | exact .inr rfl)) (pdgs_nil))))
    (dss_one (ds_asg (pd_op op_or opd_I0 (ph_of (pd_op op_or opd_I0 (ph_of (pd_ix rfl (ph_sl (pv 1)) (ph_sl (pv 4)))) (ph_of (pd_ix rfl (ph_sl (pv 1)) (ph_sl (pv 3)))))) (ph_of (pd_op op_shl opd_I (ph_of (pd_int)) (ph_sl (pv 3))))) (pdg_store (pv 1) (ph_sl (pv 4))))))))
    (dss_one (ds_ret (pd_cty cr_tupleD cd_tuple rfl Z.tuple boot_tuple (phs_cons (ph_sl (pv 1)) (phs_nil))))))

/-! ### Todo.many: room 1 -/
abbrev st_Todo_many : Stmt := inClass (topS 15) 2
abbrev N_Todo_many : List Str := ["self"]
theorem sc_Todo_many : FnScope N_Todo_many ["self"] (defScope st_Todo_many) := ⟨rfl, rfl, rfl, by decide +kernel, rfl, by decide +kernel, by decide +kernel⟩
def t_Todo_many (a : Ad) : DS :=
  sRet (dFld a.Todo "_many" (hSl 0))
theorem b_Todo_many {P : Program} {w : World} {c : Cfg} {mg : Str → Option Value} {base : Heap} {a : Ad} {A : Around} {outer : List Env} {s : Shared} {H : Hp} {E : XK} {f : Addr} {cd : Value} (Z : ZF P w c mg base a)
    (hr : Room (0) (A.deeper (envOfC "Todo.many" (defScope st_Todo_many) s.heap.objs.size f cd))) : PDSs (cxOf (L2.CX P w) P w c.K mg base N_Todo_many "Todo.many" (defScope st_Todo_many) f cd A outer s H E) c E (defBody st_Todo_many) (t_Todo_many a) :=
  dss_one (ds_ret (pd_fld rfl Z.cTodo Z.naTodo_many (ph_sl (pv 0))))

/-! ### Todo.needs: room 1 -/
abbrev st_Todo_needs : Stmt := inClass (topS 15) 3
abbrev N_Todo_needs : List Str := ["self"]
theorem sc_Todo_needs : FnScope N_Todo_needs ["self"] (defScope st_Todo_needs) := ⟨rfl, rfl, rfl, by decide +kernel, rfl, by decide +kernel, by decide +kernel⟩
def t_Todo_needs (a : Ad) : DS :=
  sRet (dFld a.Todo "_needs" (hSl 0))
theorem b_Todo_needs {P : Program} {w : World} {c : Cfg} {mg : Str → Option Value} {base : Heap} {a : Ad} {A : Around} {outer : List Env} {s : Shared} {H : Hp} {E : XK} {f : Addr} {cd : Value} (Z : ZF P w c mg base a)
    (hr : Room (0) (A.deeper (envOfC "Todo.needs" (defScope st_Todo_needs) s.heap.objs.size f cd))) : PDSs (cxOf (L2.CX P w) P w c.K mg base N_Todo_needs "Todo.needs" (defScope st_Todo_needs) f cd A outer s H E) c E (defBody st_Todo_needs) (t_Todo_needs a) :=
  dss_one (ds_ret (pd_fld rfl Z.cTodo Z.naTodo_needs (ph_sl (pv 0))))

/-! ### Todo.__init__: room 4 -/
abbrev st_Todo___init__ : Stmt := inClass (topS 15) 0
abbrev N_Todo___init__ : List Str := ["self", "many", "needs", "cycle"]
theorem sc_Todo___init__ : FnScope N_Todo___init__ ["self", "many", "needs"] (defScope st_Todo___init__) := ⟨rfl, rfl, rfl, by decide +kernel, rfl, by decide +kernel, by decide +kernel⟩
def t_Todo___init__ (a : Ad) : DS :=
  sSeq (sDrop (dCall (ds_check a) [] (dCons (dCall (ds_is_number a) [] (dCons (dVar 1) (dCons (dC (.int 0)) (dCons (dC (.int 24)) (dNil))))) (dCons (dC (.str "many")) (dNil)))))
  (sSeq (sDrop (dCall (ds_check a) [] (dCons (dCall (ds_are_needs a) [] (dCons (dVar 2) (dCons (dVar 1) (dNil)))) (dCons (dC (.str "needs")) (dNil)))))
  (sSeq (sSet 3 (cOf (dCall (ds_first_cycle a) [] (dCons (dVar 1) (dCons (dVar 2) (dNil))))))
  (sSeq (sIf (dTru (hSl 3))
  (sRaise a.RoundAbout "cycle" (dVar 3))
  (sNx))
  (sSeq (sSetF 0 a.Todo "_many" (dVar 1))
  (sSeq (sSetF 0 a.Todo "_needs" (dVar 2))
  (sSeq (sSetF 0 a.Todo "_ahead" (dMethO 0 a.Todo "_masks" (ds_Todo__masks a)))
  (sSetF 0 a.Todo "_things" (dTupR (dCons (dVar 1) dNil)))))))))
theorem b_Todo___init__ {P : Program} {w : World} {c : Cfg} {mg : Str → Option Value} {base : Heap} {a : Ad} {A : Around} {outer : List Env} {s : Shared} {H : Hp} {E : XK} {f : Addr} {cd : Value} (Z : ZF P w c mg base a) (f3_is_number : Callee P w c mg base "is_number" 1 ["value", "least", "most"] (ds_is_number a) []) (f2_check : Callee P w c mg base "check" 3 ["is_right", "name"] (ds_check a) []) (f2_are_needs : Callee P w c mg base "are_needs" 2 ["value", "many"] (ds_are_needs a) []) (f2_first_cycle : Callee P w c mg base "first_cycle" 2 ["many", "needs"] (ds_first_cycle a) []) (m_Todo__masks : MethF P w c mg base a.Todo "_masks" 1 ["self"] (ds_Todo__masks a))
    (hr : Room (3) (A.deeper (envOfC "Todo.__init__" (defScope st_Todo___init__) s.heap.objs.size f cd))) : PDSs (cxOf (L2.CX P w) P w c.K mg base N_Todo___init__ "Todo.__init__" (defScope st_Todo___init__) f cd A outer s H E) c E (defBody st_Todo___init__) (t_Todo___init__ a) :=
  have htk := takes_of (X := cxOf (L2.CX P w) P w c.K mg base N_Todo___init__ "Todo.__init__" (defScope st_Todo___init__) f cd A outer s H E) rfl rfl rfl rfl
  have hpx := passes_call htk (fun _ _ _ _ h => h)
  have S := sc_Todo___init__
  dss_cons (ds_expr (pd_fn f2_check (hr.mono (by omega)) rfl hpx (pda_cons (pd_fn f3_is_number (hr.mono (by omega)) rfl hpx (pda_cons (pd_var (pv 1)) (pda_cons (pd_int) (pda_cons (pd_const (pe_glob (v := .int 24) rfl Z.MOST.choose_spec ⟨_, rfl⟩) (fun _ => .int _)) (pda_nil))))) (pda_cons (pd_str) (pda_nil)))))
    (dss_cons (ds_expr (pd_fn f2_check (hr.mono (by omega)) rfl hpx (pda_cons (pd_fn f2_are_needs (hr.mono (by omega)) rfl hpx (pda_cons (pd_var (pv 2)) (pda_cons (pd_var (pv 1)) (pda_nil)))) (pda_cons (pd_str) (pda_nil)))))
    (dss_cons (ds_set S.nd rfl (by first | exact .inl rfl | exact .inr rfl) (pc_of (pd_fn f2_first_cycle (hr.mono (by omega)) rfl hpx (pda_cons (pd_var (pv 1)) (pda_cons (pd_var (pv 2)) (pda_nil))))))
    (dss_cons (ds_if (pdt_tru rfl (ph_sl (pv 3)))
    (dss_one (ds_raise' rfl rfl htk Z.eRoundAbout (hr.mono (by omega)) (pd_var (pv 3)) rfl Z.RoundAbout))
    (dss_nil))
    (dss_cons (ds_setF rfl Z.cTodo Z.naTodo_many (pv 0) (pd_var (pv 1)))
    (dss_cons (ds_setF rfl Z.cTodo Z.naTodo_needs (pv 0) (pd_var (pv 2)))
    (dss_cons (ds_setF rfl Z.cTodo Z.naTodo_ahead (pv 0) (pd_methO' m_Todo__masks (pv 0) Z.cTodo (hr.mono (by omega)) rfl))
    (dss_one (ds_setF rfl Z.cTodo Z.naTodo_things (pv 0) (pd_tupRange rfl rfl Z.tuple rfl Z.range (pd_var (pv 1)))))))))))

/-! ### is_todo: room 1 -/
abbrev st_is_todo : Stmt := topS 16
abbrev N_is_todo : List Str := ["value"]
theorem sc_is_todo : FnScope N_is_todo ["value"] (defScope st_is_todo) := ⟨rfl, rfl, rfl, by decide +kernel, rfl, by decide +kernel, by decide +kernel⟩
def t_is_todo (a : Ad) : DS :=
  sRet (dIsT [a.Todo] (isC a.Todo) (hSl 0))
theorem b_is_todo {P : Program} {w : World} {c : Cfg} {mg : Str → Option Value} {base : Heap} {a : Ad} {A : Around} {outer : List Env} {s : Shared} {H : Hp} {E : XK} {f : Addr} {cd : Value} (Z : ZF P w c mg base a)
    (hr : Room (0) (A.deeper (envOfC "is_todo" (defScope st_is_todo) s.heap.objs.size f cd))) : PDSs (cxOf (L2.CX P w) P w c.K mg base N_is_todo "is_todo" (defScope st_is_todo) f cd A outer s H E) c E (defBody st_is_todo) (t_is_todo a) :=
  dss_one (ds_ret (pd_isC (OC := [a.Todo]) rfl Z.ins rfl (ph_sl (pv 0)) rfl Z.isinstance rfl Z.Todo))

/-! ### _law_taken: room 1 -/
abbrev st__law_taken : Stmt := topS 18
abbrev N__law_taken : List Str := ["row", "many", "cell", "found"]
theorem sc__law_taken : FnScope N__law_taken ["row", "many"] (defScope st__law_taken) := ⟨rfl, rfl, rfl, by decide +kernel, rfl, by decide +kernel, by decide +kernel⟩
def t__law_taken_s1 (a : Ad) : DS :=
  sSet 3 (cOf (dOp (kI (fun _ j => 0 < j) fun i j => .int (i % j)) (hOf (dCb kInt (hCons (hOf (dOp kIx (hSl 0) (hOf (dC (.int 3))))) (hNil)))) (hSl 1)))
def t__law_taken_s2 (a : Ad) : DS :=
  sAsg (dOp (kI CDivW fun i j => .int (i / j)) (hOf (dOp kIx (hSl 0) (hOf (dC (.int 3))))) (hSl 1)) (gSto 0 (hOf (dC (.int 3))))
def t__law_taken_s3 (a : Ad) : DS :=
  sRet (dVar 3)
def t__law_taken_s4 (a : Ad) : DS :=
  sIf (dTest (dOp (kI0 fun i j => .bl (decide (j < i))) (hOf (dOp kIx (hSl 0) (hOf (dC (.int 3))))) (hOf (dC (.int 0)))))
  (sSeq (t__law_taken_s1 a)
  (sSeq (t__law_taken_s2 a)
  (t__law_taken_s3 a)))
  (sNx)
def t__law_taken_s5 (a : Ad) : DS :=
  sAsg (dOp kAdd (hOf (dOp kIx (hSl 0) (hOf (dC (.int 1))))) (hOf (dC (.int 1)))) (gSto 0 (hOf (dC (.int 1))))
def t__law_taken_s6 (a : Ad) : DS :=
  sAsg (dOp (kI (fun _ j => 0 < j) fun i j => .int (i % j)) (hOf (dCb kInt (hCons (hOf (dOp kAdd (hOf (dOp kMul (hOf (dOp kIx (hSl 0) (hOf (dC (.int 2))))) (hOf (dC (.int 48271))))) (hOf (dC (.int 11))))) (hNil)))) (hOf (dC (.int 2147483647)))) (gSto 0 (hOf (dC (.int 2))))
def t__law_taken_s7 (a : Ad) : DS :=
  sRet (dOp (kI (fun _ j => 0 < j) fun i j => .int (i % j)) (hOf (dCb kInt (hCons (hOf (dOp (kI CDivW fun i j => .int (i / j)) (hOf (dOp kIx (hSl 0) (hOf (dC (.int 2))))) (hOf (dC (.int 7))))) (hNil)))) (hSl 1))
def t__law_taken_s8 (a : Ad) : DS :=
  sIf (dTest (dOp (kI0 fun i j => .bl (decide (j < i))) (hOf (dOp kIx (hSl 0) (hOf (dC (.int 1))))) (hOf (dCb kLen (hCons (hOf (dOp kIx (hSl 0) (hOf (dC (.int 0))))) (hNil))))))
  (sSeq (t__law_taken_s6 a)
  (t__law_taken_s7 a))
  (sNx)
def t__law_taken_s9 (a : Ad) : DS :=
  sSet 2 (cOf (dOp kIx (hOf (dOp kIx (hSl 0) (hOf (dC (.int 0))))) (hOf (dOp (kI0 fun i j => .int (i - j)) (hOf (dOp kIx (hSl 0) (hOf (dC (.int 1))))) (hOf (dC (.int 1)))))))
def t__law_taken_s10 (a : Ad) : DS :=
  sAsg (dOp (kI (fun _ j => 0 < j) fun i j => .int (i % j)) (hOf (dCb kInt (hCons (hOf (dOp kAdd (hOf (dOp kAdd (hOf (dOp kMul (hOf (dOp kIx (hSl 0) (hOf (dC (.int 2))))) (hOf (dC (.int 48271))))) (hSl 2))) (hOf (dC (.int 11))))) (hNil)))) (hOf (dC (.int 2147483647)))) (gSto 0 (hOf (dC (.int 2))))
def t__law_taken_s11 (a : Ad) : DS :=
  sAsg (dOp (kI CDivW fun i j => .int (i / j)) (hSl 2) (hSl 1)) (gSto 0 (hOf (dC (.int 3))))
def t__law_taken_s12 (a : Ad) : DS :=
  sIf (dTest (dOp (kI0 fun i j => .bl (decide (j ≤ i))) (hSl 2) (hOf (dOp (kI CPow fun i j => .int (i ^ j.toNat)) (hOf (dC (.int 10))) (hOf (dC (.int 18)))))))
  (t__law_taken_s11 a)
  (sNx)
def t__law_taken_s13 (a : Ad) : DS :=
  sRet (dOp (kI (fun _ j => 0 < j) fun i j => .int (i % j)) (hOf (dCb kInt (hCons (hSl 2) (hNil)))) (hSl 1))
def t__law_taken (a : Ad) : DS :=
  sSeq (t__law_taken_s4 a)
  (sSeq (t__law_taken_s5 a)
  (sSeq (t__law_taken_s8 a)
  (sSeq (t__law_taken_s9 a)
  (sSeq (t__law_taken_s10 a)
  (sSeq (t__law_taken_s12 a)
  (t__law_taken_s13 a))))))
theorem b__law_taken {P : Program} {w : World} {c : Cfg} {mg : Str → Option Value} {base : Heap} {a : Ad} {A : Around} {outer : List Env} {s : Shared} {H : Hp} {E : XK} {f : Addr} {cd : Value} (Z : ZF P w c mg base a)
    (hr : Room (0) (A.deeper (envOfC "_law_taken" (defScope st__law_taken) s.heap.objs.size f cd))) : PKSs (cxOf (L2.CX P w) P w c.K mg base N__law_taken "_law_taken" (defScope st__law_taken) f cd A outer s H E) c E [2, 3] (defBody st__law_taken) (t__law_taken a) :=
  have S := sc__law_taken
  kss_cons (ks_if (pdt_cmp op_gt opd_B0 (ph_of (pd_ix rfl (ph_sl (pv 0)) (ph_of (pd_int)))) (ph_of (pd_int)) rfl)
    (kss_cons (ks_set (by decide) S.nd rfl (by first | exact .inl rfl | exact .inr rfl) (pc_of (pd_op op_mod opd_I (ph_of (pd_cty cr_int1 cd_int rfl Z.int boot_int (phs_cons (ph_of (pd_ix rfl (ph_sl (pv 0)) (ph_of (pd_int)))) (phs_nil)))) (ph_sl (pv 1)))))
    (kss_cons (ks_asg (us := []) (by decide) (pd_op op_fdivW opd_I (ph_of (pd_ix rfl (ph_sl (pv 0)) (ph_of (pd_int)))) (ph_sl (pv 1))) (pdg_store (pv 0) (ph_of (pd_int))))
    (kss_one (ks_ret (pd_var (pv 3))))))
    (kss_nil))
    (kss_cons (ks_asg (us := []) (by decide) (pd_op op_addD opd_add (ph_of (pd_ix rfl (ph_sl (pv 0)) (ph_of (pd_int)))) (ph_of (pd_int))) (pdg_store (pv 0) (ph_of (pd_int))))
    (kss_cons (ks_if (pdt_cmp op_gt opd_B0 (ph_of (pd_ix rfl (ph_sl (pv 0)) (ph_of (pd_int)))) (ph_of (pd_cb cr_lenD cd_len rfl Z.len boot_len (phs_cons (ph_of (pd_ix rfl (ph_sl (pv 0)) (ph_of (pd_int)))) (phs_nil)))) rfl)
    (kss_cons (ks_asg (us := []) (by decide) (pd_op op_mod opd_I (ph_of (pd_cty cr_int1 cd_int rfl Z.int boot_int (phs_cons (ph_of (pd_op op_addD opd_add (ph_of (pd_op op_mulD opd_mul (ph_of (pd_ix rfl (ph_sl (pv 0)) (ph_of (pd_int)))) (ph_of (pd_int)))) (ph_of (pd_int)))) (phs_nil)))) (ph_of (pd_int))) (pdg_store (pv 0) (ph_of (pd_int))))
    (kss_one (ks_ret (pd_op op_mod opd_I (ph_of (pd_cty cr_int1 cd_int rfl Z.int boot_int (phs_cons (ph_of (pd_op op_fdivW opd_I (ph_of (pd_ix rfl (ph_sl (pv 0)) (ph_of (pd_int)))) (ph_of (pd_int)))) (phs_nil)))) (ph_sl (pv 1))))))
    (kss_nil))
    (kss_cons (ks_set (by decide) S.nd rfl (by first | exact .inl rfl | exact .inr rfl) (pc_of (pd_ix rfl (ph_of (pd_ix rfl (ph_sl (pv 0)) (ph_of (pd_int)))) (ph_of (pd_op op_sub opd_I0 (ph_of (pd_ix rfl (ph_sl (pv 0)) (ph_of (pd_int)))) (ph_of (pd_int)))))))
    (kss_cons (ks_asg (us := []) (by decide) (pd_op op_mod opd_I (ph_of (pd_cty cr_int1 cd_int rfl Z.int boot_int (phs_cons (ph_of (pd_op op_addD opd_add (ph_of (pd_op op_addD opd_add (ph_of (pd_op op_mulD opd_mul (ph_of (pd_ix rfl (ph_sl (pv 0)) (ph_of (pd_int)))) (ph_of (pd_int)))) (ph_sl (pv 2)))) (ph_of (pd_int)))) (phs_nil)))) (ph_of (pd_int))) (pdg_store (pv 0) (ph_of (pd_int))))
    (kss_cons (ks_if (pdt_cmp op_ge opd_B0 (ph_sl (pv 2)) (ph_of (pd_op op_pow opd_I (ph_of (pd_int)) (ph_of (pd_int)))) rfl)
    (kss_one (ks_asg (us := []) (by decide) (pd_op op_fdivW opd_I (ph_sl (pv 2)) (ph_sl (pv 1))) (pdg_store (pv 0) (ph_of (pd_int)))))
    (kss_nil))
    (kss_one (ks_ret (pd_op op_mod opd_I (ph_of (pd_cty cr_int1 cd_int rfl Z.int boot_int (phs_cons (ph_sl (pv 2)) (phs_nil)))) (ph_sl (pv 1))))))))))

/-! ### _law_pick: room 2 -/
abbrev st__law_pick : Stmt := topS 19
abbrev N__law_pick : List Str := ["row", "some"]
theorem sc__law_pick : FnScope N__law_pick ["row", "some"] (defScope st__law_pick) := ⟨rfl, rfl, rfl, by decide +kernel, rfl, by decide +kernel, by decide +kernel⟩
def t__law_pick (a : Ad) : DS :=
  sRet (dOp kIx (hSl 1) (hOf (dCall (ds__law_taken a) [] (dCons (dVar 0) (dCons (dCb kLen (hCons (hSl 1) (hNil))) (dNil))))))
theorem b__law_pick {P : Program} {w : World} {c : Cfg} {mg : Str → Option Value} {base : Heap} {a : Ad} {A : Around} {outer : List Env} {s : Shared} {H : Hp} {E : XK} {f : Addr} {cd : Value} (Z : ZF P w c mg base a) (f2__law_taken : Callee P w c mg base "_law_taken" 1 ["row", "many"] (ds__law_taken a) [])
    (hr : Room (1) (A.deeper (envOfC "_law_pick" (defScope st__law_pick) s.heap.objs.size f cd))) : PDSs (cxOf (L2.CX P w) P w c.K mg base N__law_pick "_law_pick" (defScope st__law_pick) f cd A outer s H E) c E (defBody st__law_pick) (t__law_pick a) :=
  have htk := takes_of (X := cxOf (L2.CX P w) P w c.K mg base N__law_pick "_law_pick" (defScope st__law_pick) f cd A outer s H E) rfl rfl rfl rfl
  have hpx := passes_call htk (fun _ _ _ _ h => h)
  dss_one (ds_ret (pd_ix rfl (ph_sl (pv 1)) (ph_of (pd_fn f2__law_taken (hr.mono (by omega)) rfl hpx (pda_cons (pd_var (pv 0)) (pda_cons (pd_cb cr_lenD cd_len rfl Z.len boot_len (phs_cons (ph_sl (pv 1)) (phs_nil))) (pda_nil)))))))

/-! ### _law_pairs: room 2 -/
abbrev st__law_pairs : Stmt := topS 20
abbrev N__law_pairs : List Str := ["row", "many", "share", "found", "one", "other"]
theorem sc__law_pairs : FnScope N__law_pairs ["row", "many"] (defScope st__law_pairs) := ⟨rfl, rfl, rfl, by decide +kernel, rfl, by decide +kernel, by decide +kernel⟩
def t__law_pairs_i1 (a : Ad) : DT :=
  dTest (dOp kNe (hSl 5) (hSl 4))
def t__law_pairs_e1 (a : Ad) : DW :=
  dVar 5
def t__law_pairs_b1 (a : Ad) : DS :=
  sIf (dTest (dOp kEq (hOf (dCall (ds__law_taken a) [] (dCons (dVar 0) (dCons (dVar 2) (dNil))))) (hOf (dC (.int 0)))))
  (sDrop (dMut "list" 3 kAppend (dCons (dTup (dCons (dVar 4) (dCons (dVar 5) (dNil)))) (dNil))))
  (sNx)
def t__law_pairs_b2 (a : Ad) : DS :=
  sFor (iSeq (dOf (cLc (iRng1D (dCons (dVar 1) (dNil))) (gNm 5) (t__law_pairs_i1 a) (t__law_pairs_e1 a) [5]))) (gNm 5)
  (t__law_pairs_b1 a)
def t__law_pairs (a : Ad) : DS :=
  sSeq (sSet 2 (cOf (dOp kAdd (hOf (dC (.int 1))) (hOf (dCall (ds__law_taken a) [] (dCons (dVar 0) (dCons (dC (.int 6)) (dNil))))))))
  (sSeq (sSet 3 (cLst (dNil)))
  (sSeq (sFor (iRng1D (dCons (dVar 1) (dNil))) (gNm 4)
  (t__law_pairs_b2 a))
  (sRet (dCb kTuple (hCons (hSl 3) (hNil))))))
theorem b__law_pairs {P : Program} {w : World} {c : Cfg} {mg : Str → Option Value} {base : Heap} {a : Ad} {A : Around} {outer : List Env} {s : Shared} {H : Hp} {E : XK} {f : Addr} {cd : Value} (Z : ZF P w c mg base a) (f2__law_taken : Callee P w c mg base "_law_taken" 1 ["row", "many"] (ds__law_taken a) [])
    (hr : Room (1) (A.deeper (envOfC "_law_pairs" (defScope st__law_pairs) s.heap.objs.size f cd))) : PDSs (cxOf (L2.CX P w) P w c.K mg base N__law_pairs "_law_pairs" (defScope st__law_pairs) f cd A outer s H E) c E (defBody st__law_pairs) (t__law_pairs a) :=
  have htk := takes_of (X := cxOf (L2.CX P w) P w c.K mg base N__law_pairs "_law_pairs" (defScope st__law_pairs) f cd A outer s H E) rfl rfl rfl rfl
  have hpx := passes_call htk (fun _ _ _ _ h => h)
  have hpo := passes_of (X := cxOf (L2.CX P w) P w c.K mg base N__law_pairs "_law_pairs" (defScope st__law_pairs) f cd A outer s H E) rfl
  have S := sc__law_pairs
  dss_cons (ds_set S.nd rfl (by first | exact .inl rfl | exact .inr rfl) (pc_of (pd_op op_addD opd_add (ph_of (pd_int)) (ph_of (pd_fn f2__law_taken (hr.mono (by omega)) rfl hpx (pda_cons (pd_var (pv 0)) (pda_cons (pd_int) (pda_nil))))))))
    (dss_cons (ds_set S.nd rfl (by first | exact .inl rfl | exact .inr rfl) (pc_lst (pda_nil)))
    (dss_cons (ds_for hpo rfl (pdi_range1 rfl Z.range (pda_cons (pd_var (pv 1)) (pda_nil))) (pdg_name S.nd rfl (by first | exact .inl rfl | exact .inr rfl))
    (dss_one (ds_for hpo rfl (pdi_seq rfl (pd_ofC (pc_lc (own := [("other", 5)]) rfl S.nd (pdi_range1 rfl Z.range (pda_cons (pd_var (pv 1)) (pda_nil))) (blkOk_by (by rfl)) (fun s2 H2 C2 cl2 fp2 => pdg_name S.nd rfl (by first | exact .inl rfl | exact .inr rfl)) (fun s2 H2 C2 cl2 fp2 => pdts_one (pdt_cmp (op_neD hr.units) opd_ne (ph_sl (pv 5)) (ph_sl (pv 4)) rfl)) (fun s2 H2 C2 cl2 fp2 => pd_var (pv 5)) (by decide)))) (pdg_name S.nd rfl (by first | exact .inl rfl | exact .inr rfl))
    (dss_one (ds_if (pdt_cmp (op_eqD hr.units) opd_eq (ph_of (pd_fn f2__law_taken (hr.mono (by omega)) rfl hpx (pda_cons (pd_var (pv 0)) (pda_cons (pd_var (pv 2)) (pda_nil))))) (ph_of (pd_int)) rfl)
    (dss_one (ds_expr (pd_append rfl (pv 3) (pda_cons (pd_tup (pda_cons (pd_var (pv 4)) (pda_cons (pd_var (pv 5)) (pda_nil)))) (pda_nil)))))
    (dss_nil))))))
    (dss_one (ds_ret (pd_cty cr_tupleD cd_tuple rfl Z.tuple boot_tuple (phs_cons (ph_sl (pv 3)) (phs_nil)))))))

/-! ### _law_shuffled: room 2 -/
abbrev st__law_shuffled : Stmt := topS 21
abbrev N__law_shuffled : List Str := ["row", "some", "left", "found"]
theorem sc__law_shuffled : FnScope N__law_shuffled ["row", "some"] (defScope st__law_shuffled) := ⟨rfl, rfl, rfl, by decide +kernel, rfl, by decide +kernel, by decide +kernel⟩
def t__law_shuffled_w1 (a : Ad) : DT :=
  dTest (dOp kNe (hSl 2) (hOf (dLst (dNil))))
def t__law_shuffled_b1 (a : Ad) : DS :=
  sDrop (dMut "list" 3 kAppend (dCons (dMut "list" 2 kPopAt (dCons (dCall (ds__law_taken a) [] (dCons (dVar 0) (dCons (dCb kLen (hCons (hSl 2) (hNil))) (dNil)))) (dNil))) (dNil)))
def t__law_shuffled (a : Ad) : DS :=
  sSeq (sPar 2 3 (cCb kList (hCons (hSl 1) (hNil))) (cLst (dNil)))
  (sSeq (sWhile (t__law_shuffled_w1 a)
  (t__law_shuffled_b1 a))
  (sRet (dVar 3)))
theorem b__law_shuffled {P : Program} {w : World} {c : Cfg} {mg : Str → Option Value} {base : Heap} {a : Ad} {A : Around} {outer : List Env} {s : Shared} {H : Hp} {E : XK} {f : Addr} {cd : Value} (Z : ZF P w c mg base a) (f2__law_taken : Callee P w c mg base "_law_taken" 1 ["row", "many"] (ds__law_taken a) [])
    (hr : Room (1) (A.deeper (envOfC "_law_shuffled" (defScope st__law_shuffled) s.heap.objs.size f cd))) : PDSs (cxOf (L2.CX P w) P w c.K mg base N__law_shuffled "_law_shuffled" (defScope st__law_shuffled) f cd A outer s H E) c E (defBody st__law_shuffled) (t__law_shuffled a) :=
  have htk := takes_of (X := cxOf (L2.CX P w) P w c.K mg base N__law_shuffled "_law_shuffled" (defScope st__law_shuffled) f cd A outer s H E) rfl rfl rfl rfl
  have hpx := passes_call htk (fun _ _ _ _ h => h)
  have hpo := passes_of (X := cxOf (L2.CX P w) P w c.K mg base N__law_shuffled "_law_shuffled" (defScope st__law_shuffled) f cd A outer s H E) rfl
  have S := sc__law_shuffled
  dss_cons (ds_par rfl S.nd rfl rfl (by decide) rfl rfl (pc_cty cr_listD cl_list rfl Z.list boot_list (phs_cons (ph_sl (pv 1)) (phs_nil))) (pc_lst (pda_nil)) rfl)
    (dss_cons (ds_while hpo (pdt_cmp (op_neD hr.units) opd_ne (ph_sl (pv 2)) (ph_of (pd_lst (pda_nil))) rfl)
    (dss_one (ds_expr (pd_append rfl (pv 3) (pda_cons (pd_pop rfl (pv 2) (pda_cons (pd_fn f2__law_taken (hr.mono (by omega)) rfl hpx (pda_cons (pd_var (pv 0)) (pda_cons (pd_cb cr_lenD cd_len rfl Z.len boot_len (phs_cons (ph_sl (pv 2)) (phs_nil))) (pda_nil)))) (pda_nil))) (pda_nil))))))
    (dss_one (ds_ret (pd_var (pv 3)))))

/-! ### _law_needs: room 3 -/
abbrev st__law_needs : Stmt := topS 22
abbrev N__law_needs : List Str := ["row", "many", "order", "share", "found", "at", "to", "thing"]
theorem sc__law_needs : FnScope N__law_needs ["row", "many"] (defScope st__law_needs) := ⟨rfl, rfl, rfl, by decide +kernel, rfl, by decide +kernel, by decide +kernel⟩
def t__law_needs_i1 (a : Ad) : DT :=
  dYes
def t__law_needs_e1 (a : Ad) : DW :=
  dVar 7
def t__law_needs_b1 (a : Ad) : DS :=
  sIf (dOr (dTest (dOp kEq (hSl 3) (hOf (dC (.int 6))))) (dAnd (dTest (dOp (kI0 fun i j => .bl (decide (j < i))) (hSl 3) (hOf (dC (.int 0))))) (dTest (dOp kEq (hOf (dCall (ds__law_taken a) [] (dCons (dVar 0) (dCons (dOp (kI0 fun i j => .int (i - j)) (hOf (dC (.int 7))) (hSl 3)) (dNil))))) (hOf (dC (.int 0)))))))
  (sDrop (dMut "list" 4 kAppend (dCons (dTup (dCons (dOp kIx (hSl 2) (hSl 5)) (dCons (dOp kIx (hSl 2) (hSl 6)) (dNil)))) (dNil))))
  (sNx)
def t__law_needs_b2 (a : Ad) : DS :=
  sFor (iRng2D (dCons (dOp kAdd (hSl 5) (hOf (dC (.int 1)))) (dCons (dVar 1) (dNil)))) (gNm 6)
  (t__law_needs_b1 a)
def t__law_needs (a : Ad) : DS :=
  sSeq (sSet 2 (cOf (dCall (ds__law_shuffled a) [] (dCons (dVar 0) (dCons (dOf (cLc (iRng1D (dCons (dVar 1) (dNil))) (gNm 7) (t__law_needs_i1 a) (t__law_needs_e1 a) [7])) (dNil))))))
  (sSeq (sSet 3 (cOf (dCall (ds__law_taken a) [] (dCons (dVar 0) (dCons (dC (.int 7)) (dNil))))))
  (sSeq (sSet 4 (cLst (dNil)))
  (sSeq (sFor (iRng1D (dCons (dVar 1) (dNil))) (gNm 5)
  (t__law_needs_b2 a))
  (sRet (dCb kTuple (hCons (hOf (dOf (cCb kSort (hCons (hSl 4) (hNil))))) (hNil)))))))
theorem b__law_needs {P : Program} {w : World} {c : Cfg} {mg : Str → Option Value} {base : Heap} {a : Ad} {A : Around} {outer : List Env} {s : Shared} {H : Hp} {E : XK} {f : Addr} {cd : Value} (Z : ZF P w c mg base a) (f2__law_shuffled : Callee P w c mg base "_law_shuffled" 2 ["row", "some"] (ds__law_shuffled a) []) (f2__law_taken : Callee P w c mg base "_law_taken" 1 ["row", "many"] (ds__law_taken a) [])
    (hr : Room (2) (A.deeper (envOfC "_law_needs" (defScope st__law_needs) s.heap.objs.size f cd))) : PDSs (cxOf (L2.CX P w) P w c.K mg base N__law_needs "_law_needs" (defScope st__law_needs) f cd A outer s H E) c E (defBody st__law_needs) (t__law_needs a) :=
  have htk := takes_of (X := cxOf (L2.CX P w) P w c.K mg base N__law_needs "_law_needs" (defScope st__law_needs) f cd A outer s H E) rfl rfl rfl rfl
  have hpx := passes_call htk (fun _ _ _ _ h => h)
  have hpo := passes_of (X := cxOf (L2.CX P w) P w c.K mg base N__law_needs "_law_needs" (defScope st__law_needs) f cd A outer s H E) rfl
  have S := sc__law_needs
  dss_cons (ds_set S.nd rfl (by first | exact .inl rfl | exact .inr rfl) (pc_of (pd_fn f2__law_shuffled (hr.mono (by omega)) rfl hpx (pda_cons (pd_var (pv 0)) (pda_cons (pd_ofC (pc_lc (own := [("thing", 7)]) rfl S.nd (pdi_range1 rfl Z.range (pda_cons (pd_var (pv 1)) (pda_nil))) (blkOk_by (by rfl)) (fun s2 H2 C2 cl2 fp2 => pdg_name S.nd rfl (by first | exact .inl rfl | exact .inr rfl)) (fun s2 H2 C2 cl2 fp2 => pdts_nil) (fun s2 H2 C2 cl2 fp2 => pd_var (pv 7)) (by decide))) (pda_nil))))))
    (dss_cons (ds_set S.nd rfl (by first | exact .inl rfl | exact .inr rfl) (pc_of (pd_fn f2__law_taken (hr.mono (by omega)) rfl hpx (pda_cons (pd_var (pv 0)) (pda_cons (pd_int) (pda_nil))))))
    (dss_cons (ds_set S.nd rfl (by first | exact .inl rfl | exact .inr rfl) (pc_lst (pda_nil)))
    (dss_cons (ds_for hpo rfl (pdi_range1 rfl Z.range (pda_cons (pd_var (pv 1)) (pda_nil))) (pdg_name S.nd rfl (by first | exact .inl rfl | exact .inr rfl))
    (dss_one (ds_for hpo rfl (pdi_range2 rfl Z.range (pda_cons (pd_op op_addD opd_add (ph_sl (pv 5)) (ph_of (pd_int))) (pda_cons (pd_var (pv 1)) (pda_nil)))) (pdg_name S.nd rfl (by first | exact .inl rfl | exact .inr rfl))
    (dss_one (ds_if (PW.pt (pdw_or (pdt_cmp (op_eqD hr.units) opd_eq (ph_sl (pv 3)) (ph_of (pd_int)) rfl) (pdw_or1 (PW.pt (pdw_and (pdt_cmp op_gt opd_B0 (ph_sl (pv 3)) (ph_of (pd_int)) rfl) (pdw_and1 (pdt_cmp (op_eqD hr.units) opd_eq (ph_of (pd_fn f2__law_taken (hr.mono (by omega)) rfl hpx (pda_cons (pd_var (pv 0)) (pda_cons (pd_op op_sub opd_I0 (ph_of (pd_int)) (ph_sl (pv 3))) (pda_nil))))) (ph_of (pd_int)) rfl)))))))
    (dss_one (ds_expr (pd_append rfl (pv 4) (pda_cons (pd_tup (pda_cons (pd_ix rfl (ph_sl (pv 2)) (ph_sl (pv 5))) (pda_cons (pd_ix rfl (ph_sl (pv 2)) (ph_sl (pv 6))) (pda_nil)))) (pda_nil)))))
    (dss_nil))))))
    (dss_one (ds_ret (pd_cty cr_tupleD cd_tuple rfl Z.tuple boot_tuple (phs_cons (ph_of (pd_ofC (pc_cb (cr_sortedD hr.units) cl_sorted rfl Z.sorted boot_sorted (phs_cons (ph_sl (pv 4)) (phs_nil))))) (phs_nil))))))))

/-! ### _law_rings: room 1 -/
abbrev st__law_rings : Stmt := topS 23
abbrev N__law_rings : List Str := ["many", "needs", "size", "found", "ways", "turn", "longer", "way", "k", "pair"]
theorem sc__law_rings : FnScope N__law_rings ["many", "needs"] (defScope st__law_rings) := ⟨rfl, rfl, rfl, by decide +kernel, rfl, by decide +kernel, by decide +kernel⟩
def t__law_rings_i1 (a : Ad) : DT :=
  dYes
def t__law_rings_e1 (a : Ad) : DW :=
  dTup (dCons (dVar 8) (dNil))
def t__law_rings_i2 (a : Ad) : DT :=
  dAnd (dTest (dOp kEq (hOf (dOp kIx (hSl 9) (hOf (dC (.int 0))))) (hOf (dOp kIx (hSl 7) (hOf (dUn (kU fun i => -i) (hOf (dC (.int 1))))))))) (dTest (dOp (kInS true) (hOf (dOp kIx (hSl 9) (hOf (dC (.int 1))))) (hSl 7)))
def t__law_rings_e2 (a : Ad) : DW :=
  dOp kAdd (hSl 7) (hOf (dTup (dCons (dOp kIx (hSl 9) (hOf (dC (.int 1)))) (dNil))))
def t__law_rings_b1 (a : Ad) : DS :=
  sSet 6 (cOf (dOp kAdd (hSl 6) (hOf (dOf (cLc (iSeq (dVar 1)) (gNm 9) (t__law_rings_i2 a) (t__law_rings_e2 a) [9])))))
def t__law_rings_b2 (a : Ad) : DS :=
  sSeq (sSet 6 (cOf (dLst (dNil))))
  (sSeq (sFor (iSeq (dVar 4)) (gNm 7)
  (t__law_rings_b1 a))
  (sSet 4 (cOf (dCut (hSl 6) (oNone) (oSome (dC (.int 4000)))))))
def t__law_rings_i3 (a : Ad) : DT :=
  dTest (dOp (kInS false) (hOf (dTup (dCons (dOp kIx (hSl 7) (hOf (dUn (kU fun i => -i) (hOf (dC (.int 1)))))) (dCons (dOp kIx (hSl 7) (hOf (dC (.int 0)))) (dNil))))) (hSl 1))
def t__law_rings_e3 (a : Ad) : DW :=
  dVar 7
def t__law_rings_b3 (a : Ad) : DS :=
  sSeq (sSet 3 (cOf (dLst (dNil))))
  (sSeq (sSet 4 (cLc (iRng1D (dCons (dVar 0) (dNil))) (gNm 8) (t__law_rings_i1 a) (t__law_rings_e1 a) [8]))
  (sSeq (sFor (iRng1D (dCons (dOp (kI0 fun i j => .int (i - j)) (hSl 2) (hOf (dC (.int 1)))) (dNil))) (gNm 5)
  (t__law_rings_b2 a))
  (sSeq (sSet 3 (cLc (iSeq (dVar 4)) (gNm 7) (t__law_rings_i3 a) (t__law_rings_e3 a) [7]))
  (sIf (dTest (dOp kNe (hSl 3) (hOf (dLst (dNil)))))
  (sRet (dOf (cCb kSort (hCons (hSl 3) (hNil)))))
  (sNx)))))
def t__law_rings (a : Ad) : DS :=
  sSeq (sFor (iRng2D (dCons (dC (.int 2)) (dCons (dOp kAdd (hSl 0) (hOf (dC (.int 1)))) (dNil)))) (gNm 2)
  (t__law_rings_b3 a))
  (sRet (dLst (dNil)))
theorem b__law_rings {P : Program} {w : World} {c : Cfg} {mg : Str → Option Value} {base : Heap} {a : Ad} {A : Around} {outer : List Env} {s : Shared} {H : Hp} {E : XK} {f : Addr} {cd : Value} (Z : ZF P w c mg base a)
    (hr : Room (0) (A.deeper (envOfC "_law_rings" (defScope st__law_rings) s.heap.objs.size f cd))) : PDSs (cxOf (L2.CX P w) P w c.K mg base N__law_rings "_law_rings" (defScope st__law_rings) f cd A outer s H E) c E (defBody st__law_rings) (t__law_rings a) :=
  have hpo := passes_of (X := cxOf (L2.CX P w) P w c.K mg base N__law_rings "_law_rings" (defScope st__law_rings) f cd A outer s H E) rfl
  have S := sc__law_rings
  dss_cons (ds_for hpo rfl (pdi_range2 rfl Z.range (pda_cons (pd_int) (pda_cons (pd_op op_addD opd_add (ph_sl (pv 0)) (ph_of (pd_int))) (pda_nil)))) (pdg_name S.nd rfl (by first | exact .inl rfl | exact .inr rfl))
    (dss_cons (ds_set S.nd rfl (by first | exact .inl rfl | exact .inr rfl) (pc_of (pd_lst (pda_nil))))
    (dss_cons (ds_setLc (own := [("k", 8)]) rfl S.nd rfl rfl rfl (pdi_range1 rfl Z.range (pda_cons (pd_var (pv 0)) (pda_nil))) (blkOk_by (by rfl)) (fun s2 H2 C2 cl2 fp2 => pdg_name S.nd rfl (by first | exact .inl rfl | exact .inr rfl)) (fun s2 H2 C2 cl2 fp2 => pdts_nil) (fun s2 H2 C2 cl2 fp2 => pd_tup (pda_cons (pd_var (pv 8)) (pda_nil))) (by decide))
    (dss_cons (ds_for hpo rfl (pdi_range1 rfl Z.range (pda_cons (pd_op op_sub opd_I0 (ph_sl (pv 2)) (ph_of (pd_int))) (pda_nil))) (pdg_name S.nd rfl (by first | exact .inl rfl | exact .inr rfl))
    (dss_cons (ds_set S.nd rfl (by first | exact .inl rfl | exact .inr rfl) (pc_of (pd_lst (pda_nil))))
    (dss_cons (ds_for hpo rfl (pdi_seq rfl (pd_var (pv 4))) (pdg_name S.nd rfl (by first | exact .inl rfl | exact .inr rfl))
    (dss_one (ds_set S.nd rfl (by first | exact .inl rfl | exact .inr rfl) (pc_of (pd_op op_addD opd_add (ph_sl (pv 6)) (ph_of (pd_ofC (pc_lc (own := [("pair", 9)]) rfl S.nd (pdi_seq rfl (pd_var (pv 1))) (blkOk_by (by rfl)) (fun s2 H2 C2 cl2 fp2 => pdg_name S.nd rfl (by first | exact .inl rfl | exact .inr rfl)) (fun s2 H2 C2 cl2 fp2 => pdts_one (PW.pt (pdw_and (pdt_cmp (op_eqD hr.units) opd_eq (ph_of (pd_ix rfl (ph_sl (pv 9)) (ph_of (pd_int)))) (ph_of (pd_ix rfl (ph_sl (pv 7)) (ph_of (pd_un un_neg und_I (ph_of (pd_int)))))) rfl) (pdw_and1 (pdt_cmp (op_notInS hr.units65) opd_notInS (ph_of (pd_ix rfl (ph_sl (pv 9)) (ph_of (pd_int)))) (ph_sl (pv 7)) rfl))))) (fun s2 H2 C2 cl2 fp2 => pd_op op_addD opd_add (ph_sl (pv 7)) (ph_of (pd_tup (pda_cons (pd_ix rfl (ph_sl (pv 9)) (ph_of (pd_int))) (pda_nil))))) (by decide)))))))))
    (dss_one (ds_set S.nd rfl (by first | exact .inl rfl | exact .inr rfl) (pc_of (pd_cut rfl (ph_sl (pv 6)) (pdo_none) (pdo_some (pd_int)))))))))
    (dss_cons (ds_setLc (own := [("way", 7)]) rfl S.nd rfl rfl rfl (pdi_seq rfl (pd_var (pv 4))) (blkOk_by (by rfl)) (fun s2 H2 C2 cl2 fp2 => pdg_name S.nd rfl (by first | exact .inl rfl | exact .inr rfl)) (fun s2 H2 C2 cl2 fp2 => pdts_one (pdt_cmp (op_inS hr.units65) opd_inS (ph_of (pd_tup (pda_cons (pd_ix rfl (ph_sl (pv 7)) (ph_of (pd_un un_neg und_I (ph_of (pd_int))))) (pda_cons (pd_ix rfl (ph_sl (pv 7)) (ph_of (pd_int))) (pda_nil))))) (ph_sl (pv 1)) rfl)) (fun s2 H2 C2 cl2 fp2 => pd_var (pv 7)) (by decide))
    (dss_one (ds_if (pdt_cmp (op_neD hr.units) opd_ne (ph_sl (pv 3)) (ph_of (pd_lst (pda_nil))) rfl)
    (dss_one (ds_ret (pd_ofC (pc_cb (cr_sortedD hr.units) cl_sorted rfl Z.sorted boot_sorted (phs_cons (ph_sl (pv 3)) (phs_nil))))))
    (dss_nil))))))))
    (dss_one (ds_ret (pd_lst (pda_nil))))

/-! ### _law_alike: room 1 -/
abbrev st__law_alike : Stmt := topS 25
abbrev N__law_alike : List Str := ["found", "due", "k", "key"]
theorem sc__law_alike : FnScope N__law_alike ["found", "due"] (defScope st__law_alike) := ⟨rfl, rfl, rfl, by decide +kernel, rfl, by decide +kernel, by decide +kernel⟩
def t__law_alike_i1 (a : Ad) (self : DSp) : DT :=
  dNot (dTru (hOf (dCall self [] (dCons (dOp kIx (hSl 0) (hSl 2)) (dCons (dOp kIx (hSl 1) (hSl 2)) (dNil))))))
def t__law_alike_e1 (a : Ad) (self : DSp) : DW :=
  dVar 2
def t__law_alike_i2 (a : Ad) (self : DSp) : DT :=
  dNot (dTru (hOf (dCall self [] (dCons (dOp kIx (hSl 0) (hSl 3)) (dCons (dOp kIx (hSl 1) (hSl 3)) (dNil))))))
def t__law_alike_e2 (a : Ad) (self : DSp) : DW :=
  dVar 3
def t__law_alike (a : Ad) (self : DSp) : DS :=
  sSeq (sIf (dTru (hOf (dIsT [a.Todo] (fun d => isT "tuple" d || isT "list" d) (hSl 1))))
  (sSeq (sIf (dOr (dNot (dTru (hOf (dIsT [a.Todo] (fun d => isT "tuple" d || isT "list" d) (hSl 0))))) (dTest (dOp kNe (hOf (dIsT [a.Todo] (isT "list") (hSl 0))) (hOf (dIsT [a.Todo] (isT "list") (hSl 1))))))
  (sRet (dC (.bl false)))
  (sNx))
  (sSeq (sIf (dTest (dOp kNe (hOf (dCb kLen (hCons (hSl 0) (hNil)))) (hOf (dCb kLen (hCons (hSl 1) (hNil))))))
  (sRet (dC (.bl false)))
  (sNx))
  (sRet (dOp kEq (hOf (dOf (cLc (iRng1D (dCons (dCb kLen (hCons (hSl 1) (hNil))) (dNil))) (gNm 2) (t__law_alike_i1 a self) (t__law_alike_e1 a self) [2]))) (hOf (dLst (dNil)))))))
  (sNx))
  (sSeq (sIf (dTru (hOf (dIsT [a.Todo] (isT "dict") (hSl 1))))
  (sSeq (sIf (dOr (dNot (dTru (hOf (dIsT [a.Todo] (isT "dict") (hSl 0))))) (dTest (dOp kNe (hOf (dOf (cCb kList (hCons (hSl 0) (hNil))))) (hOf (dOf (cCb kList (hCons (hSl 1) (hNil))))))))
  (sRet (dC (.bl false)))
  (sNx))
  (sRet (dOp kEq (hOf (dOf (cLc (iSeq (dVar 1)) (gNm 3) (t__law_alike_i2 a self) (t__law_alike_e2 a self) [3]))) (hOf (dLst (dNil))))))
  (sNx))
  (sSeq (sIf (dOr (dTest (dOp (kIs false) (hSl 1) (hOf (dC .non)))) (dTru (hOf (dIsT [a.Todo] (isT "str") (hSl 1)))))
  (sRet (dAndV (dOp kEq (hSl 0) (hSl 1)) (dOp kEq (hOf (dIsT [a.Todo] (isT "str") (hSl 0))) (hOf (dIsT [a.Todo] (isT "str") (hSl 1))))))
  (sNx))
  (sRet (dAndV (dIsT [a.Todo] (isT "int") (hSl 0)) (dAndV (dOp kEq (hOf (dIsT [a.Todo] (isT "bool") (hSl 0))) (hOf (dIsT [a.Todo] (isT "bool") (hSl 1)))) (dOp kEq (hSl 0) (hSl 1)))))))
theorem b__law_alike {P : Program} {w : World} {c : Cfg} {mg : Str → Option Value} {base : Heap} {a : Ad} {self : DSp} {kk : Nat} {A : Around} {outer : List Env} {s : Shared} {H : Hp} {E : XK} {f : Addr} {cd : Value} (Z : ZF P w c mg base a) (hself : Callee P w c mg base "_law_alike" kk ["found", "due"] self [])
    (hr : Room (kk + 0) (A.deeper (envOfC "_law_alike" (defScope st__law_alike) s.heap.objs.size f cd))) : PDSs (cxOf (L2.CX P w) P w c.K mg base N__law_alike "_law_alike" (defScope st__law_alike) f cd A outer s H E) c E (defBody st__law_alike) (t__law_alike a self) :=
  have S := sc__law_alike
  dss_cons (ds_if (pdt_tru rfl (ph_of (pd_isTs (OC := [a.Todo]) rfl Z.ins (T := "tuple") (U := "list") (by decide) (by decide) (ph_sl (pv 1)) rfl Z.isinstance rfl Z.tuple boot_tuple rfl Z.list boot_list)))
    (dss_cons (ds_if (PW.pt (pdw_or (pdt_not (pdt_tru rfl (ph_of (pd_isTs (OC := [a.Todo]) rfl Z.ins (T := "tuple") (U := "list") (by decide) (by decide) (ph_sl (pv 0)) rfl Z.isinstance rfl Z.tuple boot_tuple rfl Z.list boot_list)))) (pdw_or1 (pdt_cmp (op_neD hr.units) opd_ne (ph_of (pd_isT (OC := [a.Todo]) (T := "list") rfl Z.ins (by decide) (ph_sl (pv 0)) rfl Z.isinstance rfl Z.list boot_list)) (ph_of (pd_isT (OC := [a.Todo]) (T := "list") rfl Z.ins (by decide) (ph_sl (pv 1)) rfl Z.isinstance rfl Z.list boot_list)) rfl))))
    (dss_one (ds_ret (pd_bl)))
    (dss_nil))
    (dss_cons (ds_if (pdt_cmp (op_neD hr.units) opd_ne (ph_of (pd_cb cr_lenD cd_len rfl Z.len boot_len (phs_cons (ph_sl (pv 0)) (phs_nil)))) (ph_of (pd_cb cr_lenD cd_len rfl Z.len boot_len (phs_cons (ph_sl (pv 1)) (phs_nil)))) rfl)
    (dss_one (ds_ret (pd_bl)))
    (dss_nil))
    (dss_one (ds_ret (pd_cmp (op_eqD hr.units) opd_eq (ph_of (pd_ofC (pc_lc (own := [("k", 2)]) rfl S.nd (pdi_range1 rfl Z.range (pda_cons (pd_cb cr_lenD cd_len rfl Z.len boot_len (phs_cons (ph_sl (pv 1)) (phs_nil))) (pda_nil))) (blkOk_by (by rfl)) (fun s2 H2 C2 cl2 fp2 => pdg_name S.nd rfl (by first | exact .inl rfl | exact .inr rfl)) (fun s2 H2 C2 cl2 fp2 => pdts_one (pdt_not (pdt_tru rfl (ph_of (pd_fn hself (hr.mono (by omega)) rfl passL (pda_cons (pd_ix rfl (ph_sl (pv 0)) (ph_sl (pv 2))) (pda_cons (pd_ix rfl (ph_sl (pv 1)) (ph_sl (pv 2))) (pda_nil)))))))) (fun s2 H2 C2 cl2 fp2 => pd_var (pv 2)) (by decide)))) (ph_of (pd_lst (pda_nil))) rfl)))))
    (dss_nil))
    (dss_cons (ds_if (pdt_tru rfl (ph_of (pd_isT (OC := [a.Todo]) (T := "dict") rfl Z.ins (by decide) (ph_sl (pv 1)) rfl Z.isinstance rfl Z.dict boot_dict)))
    (dss_cons (ds_if (PW.pt (pdw_or (pdt_not (pdt_tru rfl (ph_of (pd_isT (OC := [a.Todo]) (T := "dict") rfl Z.ins (by decide) (ph_sl (pv 0)) rfl Z.isinstance rfl Z.dict boot_dict)))) (pdw_or1 (pdt_cmp (op_neD hr.units) opd_ne (ph_of (pd_ofC (pc_cty cr_listD cl_list rfl Z.list boot_list (phs_cons (ph_sl (pv 0)) (phs_nil))))) (ph_of (pd_ofC (pc_cty cr_listD cl_list rfl Z.list boot_list (phs_cons (ph_sl (pv 1)) (phs_nil))))) rfl))))
    (dss_one (ds_ret (pd_bl)))
    (dss_nil))
    (dss_one (ds_ret (pd_cmp (op_eqD hr.units) opd_eq (ph_of (pd_ofC (pc_lc (own := [("key", 3)]) rfl S.nd (pdi_seq rfl (pd_var (pv 1))) (blkOk_by (by rfl)) (fun s2 H2 C2 cl2 fp2 => pdg_name S.nd rfl (by first | exact .inl rfl | exact .inr rfl)) (fun s2 H2 C2 cl2 fp2 => pdts_one (pdt_not (pdt_tru rfl (ph_of (pd_fn hself (hr.mono (by omega)) rfl passL (pda_cons (pd_ix rfl (ph_sl (pv 0)) (ph_sl (pv 3))) (pda_cons (pd_ix rfl (ph_sl (pv 1)) (ph_sl (pv 3))) (pda_nil)))))))) (fun s2 H2 C2 cl2 fp2 => pd_var (pv 3)) (by decide)))) (ph_of (pd_lst (pda_nil))) rfl))))
    (dss_nil))
    (dss_cons (ds_if (PW.pt (pdw_or (pdt_cmp op_isD opd_is (ph_sl (pv 1)) (ph_of (pd_non)) rfl) (pdw_or1 (pdt_tru rfl (ph_of (pd_isT (OC := [a.Todo]) (T := "str") rfl Z.ins (by decide) (ph_sl (pv 1)) rfl Z.isinstance rfl Z.str boot_str))))))
    (dss_one (ds_ret (pd_and (pd_cmp (op_eqD hr.units) opd_eq (ph_sl (pv 0)) (ph_sl (pv 1)) rfl) (pd_one (pd_cmp (op_eqD hr.units) opd_eq (ph_of (pd_isT (OC := [a.Todo]) (T := "str") rfl Z.ins (by decide) (ph_sl (pv 0)) rfl Z.isinstance rfl Z.str boot_str)) (ph_of (pd_isT (OC := [a.Todo]) (T := "str") rfl Z.ins (by decide) (ph_sl (pv 1)) rfl Z.isinstance rfl Z.str boot_str)) rfl)))))
    (dss_nil))
    (dss_one (ds_ret (pd_and (pd_isT (OC := [a.Todo]) (T := "int") rfl Z.ins (by decide) (ph_sl (pv 0)) rfl Z.isinstance rfl Z.int boot_int) (pd_and (pd_cmp (op_eqD hr.units) opd_eq (ph_of (pd_isT (OC := [a.Todo]) (T := "bool") rfl Z.ins (by decide) (ph_sl (pv 0)) rfl Z.isinstance rfl Z.bool boot_bool)) (ph_of (pd_isT (OC := [a.Todo]) (T := "bool") rfl Z.ins (by decide) (ph_sl (pv 1)) rfl Z.isinstance rfl Z.bool boot_bool)) rfl) (pd_one (pd_cmp (op_eqD hr.units) opd_eq (ph_sl (pv 0)) (ph_sl (pv 1)) rfl))))))))

/-! ### _law_refused: room 15 -/
abbrev st__law_refused : Stmt := topS 26
abbrev N__law_refused : List Str := ["row", "great", "bad", "wrong"]
theorem sc__law_refused : FnScope N__law_refused ["row", "great"] (defScope st__law_refused) := ⟨rfl, rfl, rfl, by decide +kernel, rfl, by decide +kernel, by decide +kernel⟩
def t__law_refused_s1 (a : Ad) : DS :=
  sSet 2 (cOf (dCall (ds__law_pick a) [] (dCons (dVar 0) (dCons (dLst (dCons (dC (.int 25)) (dCons (dUn (kU fun i => -i) (hOf (dC (.int 1)))) (dCons (dC .non) (dCons (dC (.bl true)) (dCons (dC (.str "3")) (dCons (dTup (dCons (dC (.int 3)) (dNil))) (dCons (dOp kAdd (hOf (dC (.int 26))) (hOf (dCall (ds__law_taken a) [] (dCons (dVar 0) (dCons (dOp (kI CPow fun i j => .int (i ^ j.toNat)) (hOf (dC (.int 10))) (hOf (dC (.int 9)))) (dNil)))))) (dNil))))))))) (dNil)))))
def t__law_refused_s2 (a : Ad) : DS :=
  sSet 3 (cOf (dCall (ds__law_pick a) [] (dCons (dVar 0) (dCons (dLst (dCons (dC .non) (dCons (dLst (dNil)) (dCons (dTup (dCons (dTup (dCons (dC (.int 0)) (dCons (dC (.int 0)) (dNil)))) (dNil))) (dCons (dTup (dCons (dTup (dCons (dC (.int 0)) (dCons (dC (.int 1)) (dNil)))) (dCons (dTup (dCons (dC (.int 0)) (dCons (dC (.int 1)) (dNil)))) (dNil)))) (dCons (dTup (dCons (dTup (dCons (dC (.int 1)) (dCons (dC (.int 0)) (dNil)))) (dCons (dTup (dCons (dC (.int 0)) (dCons (dC (.int 2)) (dNil)))) (dNil)))) (dCons (dTup (dCons (dTup (dCons (dC (.int 0)) (dCons (dVar 1) (dNil)))) (dNil))) (dCons (dTup (dCons (dTup (dCons (dUn (kU fun i => -i) (hOf (dC (.int 1)))) (dCons (dC (.int 0)) (dNil)))) (dNil))) (dCons (dTup (dCons (dC (.int 0)) (dCons (dC (.int 1)) (dNil)))) (dCons (dTup (dCons (dTup (dCons (dC (.int 0)) (dCons (dC (.int 1)) (dCons (dC (.int 2)) (dNil))))) (dNil))) (dCons (dTup (dCons (dTup (dCons (dC (.bl true)) (dCons (dC (.int 2)) (dNil)))) (dNil))) (dCons (dTup (dCons (dLst (dCons (dC (.int 0)) (dCons (dC (.int 1)) (dNil)))) (dNil))) (dCons (dC (.str "01")) (dNil)))))))))))))) (dNil)))))
def t__law_refused_s3 (a : Ad) : DS :=
  sRet (dC (.bl false))
def t__law_refused_s4 (a : Ad) : DS :=
  sIf (dNot (dTru (hOf (dCall (ds__law_alike a) [] (dCons (dHeard a.BadArgument a.RoundAbout a.TooMany (dMake a.Todo (di_Todo a) [] (dCons (dVar 2) (dCons (dVar 3) (dNil))))) (dCons (dTup (dCons (dC (.str "bad")) (dCons (dC (.str "many")) (dCons (dC (.bl true)) (dNil))))) (dNil)))))))
  (t__law_refused_s3 a)
  (sNx)
def t__law_refused_s5 (a : Ad) : DS :=
  sRet (dC (.bl false))
def t__law_refused_s6 (a : Ad) : DS :=
  sIf (dNot (dTru (hOf (dCall (ds__law_alike a) [] (dCons (dHeard a.BadArgument a.RoundAbout a.TooMany (dMake a.Todo (di_Todo a) [.tup []] (dCons (dVar 2) (dNil)))) (dCons (dTup (dCons (dC (.str "bad")) (dCons (dC (.str "many")) (dCons (dC (.bl true)) (dNil))))) (dNil)))))))
  (t__law_refused_s5 a)
  (sNx)
def t__law_refused_s7 (a : Ad) : DS :=
  sRet (dCall (ds__law_alike a) [] (dCons (dHeard a.BadArgument a.RoundAbout a.TooMany (dMake a.Todo (di_Todo a) [] (dCons (dVar 1) (dCons (dVar 3) (dNil))))) (dCons (dTup (dCons (dC (.str "bad")) (dCons (dC (.str "needs")) (dCons (dC (.bl true)) (dNil))))) (dNil))))
def t__law_refused (a : Ad) : DS :=
  sSeq (t__law_refused_s1 a)
  (sSeq (t__law_refused_s2 a)
  (sSeq (t__law_refused_s4 a)
  (sSeq (t__law_refused_s6 a)
  (t__law_refused_s7 a))))
theorem b__law_refused {P : Program} {w : World} {c : Cfg} {mg : Str → Option Value} {base : Heap} {a : Ad} {A : Around} {outer : List Env} {s : Shared} {H : Hp} {E : XK} {f : Addr} {cd : Value} (Z : ZF P w c mg base a) (f2__law_taken : Callee P w c mg base "_law_taken" 1 ["row", "many"] (ds__law_taken a) []) (f2__law_pick : Callee P w c mg base "_law_pick" 2 ["row", "some"] (ds__law_pick a) []) (mk2_Todo : Maker P w c mg base "Todo" a.Todo 4 ["self", "many", "needs"] (di_Todo a) []) (f2__law_alike : Callee P w c mg base "_law_alike" 14 ["found", "due"] (ds__law_alike a) []) (mk1_Todo : Maker P w c mg base "Todo" a.Todo 4 ["self", "many", "needs"] (di_Todo a) [.tup []]) {cl Pl : Addr} (HZ : HeardZ c mg a.BadArgument a.RoundAbout a.TooMany a.DueError) (hL : LamF c mg base cd "_law_refused.<locals>.<lambda>" cl Pl)
    (hr : Room (14) (A.deeper (envOfC "_law_refused" (defScope st__law_refused) s.heap.objs.size f cd))) : PDSs (cxOf (L2.CX P w) P w c.K mg base N__law_refused "_law_refused" (defScope st__law_refused) f cd A outer s H E) c E (defBody st__law_refused) (t__law_refused a) :=
  have htk := takes_of (X := cxOf (L2.CX P w) P w c.K mg base N__law_refused "_law_refused" (defScope st__law_refused) f cd A outer s H E) rfl rfl rfl rfl
  have hpx := passes_call htk (fun _ _ _ _ h => h)
  have S := sc__law_refused
  dss_cons (ds_set S.nd rfl (by first | exact .inl rfl | exact .inr rfl) (pc_of (pd_fn f2__law_pick (hr.mono (by omega)) rfl hpx (pda_cons (pd_var (pv 0)) (pda_cons (pd_lst (pda_cons (pd_int) (pda_cons (pd_un un_neg und_I (ph_of (pd_int))) (pda_cons (pd_non) (pda_cons (pd_bl) (pda_cons (pd_str) (pda_cons (pd_tup (pda_cons (pd_int) (pda_nil))) (pda_cons (pd_op op_addD opd_add (ph_of (pd_int)) (ph_of (pd_fn f2__law_taken (hr.mono (by omega)) rfl hpx (pda_cons (pd_var (pv 0)) (pda_cons (pd_op op_pow opd_I (ph_of (pd_int)) (ph_of (pd_int))) (pda_nil)))))) (pda_nil))))))))) (pda_nil))))))
    (dss_cons (ds_set S.nd rfl (by first | exact .inl rfl | exact .inr rfl) (pc_of (pd_fn f2__law_pick (hr.mono (by omega)) rfl hpx (pda_cons (pd_var (pv 0)) (pda_cons (pd_lst (pda_cons (pd_non) (pda_cons (pd_lst (pda_nil)) (pda_cons (pd_tup (pda_cons (pd_tup (pda_cons (pd_int) (pda_cons (pd_int) (pda_nil)))) (pda_nil))) (pda_cons (pd_tup (pda_cons (pd_tup (pda_cons (pd_int) (pda_cons (pd_int) (pda_nil)))) (pda_cons (pd_tup (pda_cons (pd_int) (pda_cons (pd_int) (pda_nil)))) (pda_nil)))) (pda_cons (pd_tup (pda_cons (pd_tup (pda_cons (pd_int) (pda_cons (pd_int) (pda_nil)))) (pda_cons (pd_tup (pda_cons (pd_int) (pda_cons (pd_int) (pda_nil)))) (pda_nil)))) (pda_cons (pd_tup (pda_cons (pd_tup (pda_cons (pd_int) (pda_cons (pd_var (pv 1)) (pda_nil)))) (pda_nil))) (pda_cons (pd_tup (pda_cons (pd_tup (pda_cons (pd_un un_neg und_I (ph_of (pd_int))) (pda_cons (pd_int) (pda_nil)))) (pda_nil))) (pda_cons (pd_tup (pda_cons (pd_int) (pda_cons (pd_int) (pda_nil)))) (pda_cons (pd_tup (pda_cons (pd_tup (pda_cons (pd_int) (pda_cons (pd_int) (pda_cons (pd_int) (pda_nil))))) (pda_nil))) (pda_cons (pd_tup (pda_cons (pd_tup (pda_cons (pd_bl) (pda_cons (pd_int) (pda_nil)))) (pda_nil))) (pda_cons (pd_tup (pda_cons (pd_lst (pda_cons (pd_int) (pda_cons (pd_int) (pda_nil)))) (pda_nil))) (pda_cons (pd_str) (pda_nil)))))))))))))) (pda_nil))))))
    (dss_cons (ds_if (pdt_not (pdt_tru rfl (ph_of (pd_fn f2__law_alike (hr.mono (by omega)) rfl hpx (pda_cons (pd_heard' HZ hL rfl rfl rfl rfl (k := 5) (hr.mono (by omega)) (LamX.lamS_by (by rfl)) rfl (fun _ _ _ _ _ => rfl) (fun A2 outer2 s2 H2 E2 f2 c2 hr2 => have htk2 := takes_of (X := LamX.lamCx _ A2 outer2 s2 H2 E2 _ f2 c2) rfl rfl rfl rfl; have hpx2 := passes_call htk2 (fun _ _ _ _ h => h); pd_make' mk2_Todo (hr2.mono (by omega)) rfl hpx2 (pda_cons (pd_var (pv 2)) (pda_cons (pd_var (pv 3)) (pda_nil))))) (pda_cons (pd_tup (pda_cons (pd_str) (pda_cons (pd_str) (pda_cons (pd_bl) (pda_nil))))) (pda_nil)))))))
    (dss_one (ds_ret (pd_bl)))
    (dss_nil))
    (dss_cons (ds_if (pdt_not (pdt_tru rfl (ph_of (pd_fn f2__law_alike (hr.mono (by omega)) rfl hpx (pda_cons (pd_heard' HZ hL rfl rfl rfl rfl (k := 5) (hr.mono (by omega)) (LamX.lamS_by (by rfl)) rfl (fun _ _ _ _ _ => rfl) (fun A2 outer2 s2 H2 E2 f2 c2 hr2 => have htk2 := takes_of (X := LamX.lamCx _ A2 outer2 s2 H2 E2 _ f2 c2) rfl rfl rfl rfl; have hpx2 := passes_call htk2 (fun _ _ _ _ h => h); pd_make' mk1_Todo (hr2.mono (by omega)) rfl hpx2 (pda_cons (pd_var (pv 2)) (pda_nil)))) (pda_cons (pd_tup (pda_cons (pd_str) (pda_cons (pd_str) (pda_cons (pd_bl) (pda_nil))))) (pda_nil)))))))
    (dss_one (ds_ret (pd_bl)))
    (dss_nil))
    (dss_one (ds_ret (pd_fn f2__law_alike (hr.mono (by omega)) rfl hpx (pda_cons (pd_heard' HZ hL rfl rfl rfl rfl (k := 5) (hr.mono (by omega)) (LamX.lamS_by (by rfl)) rfl (fun _ _ _ _ _ => rfl) (fun A2 outer2 s2 H2 E2 f2 c2 hr2 => have htk2 := takes_of (X := LamX.lamCx _ A2 outer2 s2 H2 E2 _ f2 c2) rfl rfl rfl rfl; have hpx2 := passes_call htk2 (fun _ _ _ _ h => h); pd_make' mk2_Todo (hr2.mono (by omega)) rfl hpx2 (pda_cons (pd_var (pv 1)) (pda_cons (pd_var (pv 3)) (pda_nil))))) (pda_cons (pd_tup (pda_cons (pd_str) (pda_cons (pd_str) (pda_cons (pd_bl) (pda_nil))))) (pda_nil)))))))))

/-! ### law: room 16 -/
abbrev st_law : Stmt := topS 27
abbrev N_law : List Str := ["script", "row", "turn", "great", "needs", "many", "rings", "heard"]
theorem sc_law : FnScope N_law ["script"] (defScope st_law) := ⟨rfl, rfl, rfl, by decide +kernel, rfl, by decide +kernel, by decide +kernel⟩
def t_law_s1 (a : Ad) : DS :=
  sSet 5 (cOf (dCall (ds__law_taken a) [] (dCons (dVar 1) (dCons (dC (.int 7)) (dNil)))))
def t_law_s2 (a : Ad) : DS :=
  sSet 4 (cOf (dCall (ds__law_pick a) [] (dCons (dVar 1) (dCons (dLst (dCons (dCall (ds__law_pairs a) [] (dCons (dVar 1) (dCons (dVar 5) (dNil)))) (dCons (dCall (ds__law_needs a) [] (dCons (dVar 1) (dCons (dVar 5) (dNil)))) (dNil)))) (dNil)))))
def t_law_s3 (a : Ad) : DS :=
  sSet 6 (cOf (dCall (ds__law_rings a) [] (dCons (dVar 5) (dCons (dVar 4) (dNil)))))
def t_law_s4 (a : Ad) : DS :=
  sSet 7 (cOf (dHeard a.BadArgument a.RoundAbout a.TooMany (dMake a.Todo (di_Todo a) [] (dCons (dVar 5) (dCons (dVar 4) (dNil))))))
def t_law_s5 (a : Ad) : DS :=
  sRet (dC (.bl false))
def t_law_s6 (a : Ad) : DS :=
  sIf (dOr (dTest (dOp kNe (hSl 7) (hOf (dTup (dNil))))) (dOr (dNot (dTru (hOf (dCall (ds__law_alike a) [] (dCons (dProp a.Todo (ds_Todo_needs a) (dMake a.Todo (di_Todo a) [] (dCons (dVar 5) (dCons (dVar 4) (dNil))))) (dCons (dVar 4) (dNil))))))) (dNot (dTru (hOf (dCall (ds__law_alike a) [] (dCons (dProp a.Todo (ds_Todo_many a) (dMake a.Todo (di_Todo a) [] (dCons (dVar 5) (dCons (dVar 4) (dNil))))) (dCons (dVar 5) (dNil)))))))))
  (t_law_s5 a)
  (sNx)
def t_law_s7 (a : Ad) : DS :=
  sRet (dC (.bl false))
def t_law_s8 (a : Ad) : DS :=
  sIf (dOr (dTest (dOp (kIs true) (hOf (dCall (ds_is_todo a) [] (dCons (dMake a.Todo (di_Todo a) [] (dCons (dVar 5) (dCons (dVar 4) (dNil)))) (dNil)))) (hOf (dC (.bl true))))) (dOr (dTest (dOp (kIs true) (hOf (dCall (ds_is_todo a) [] (dCons (dTup (dCons (dVar 5) (dCons (dVar 4) (dNil)))) (dNil)))) (hOf (dC (.bl false))))) (dTest (dOp (kIs true) (hOf (dCall (ds_is_todo a) [] (dCons (dC .non) (dNil)))) (hOf (dC (.bl false)))))))
  (t_law_s7 a)
  (sNx)
def t_law_s9 (a : Ad) : DS :=
  sRet (dC (.bl false))
def t_law_s10 (a : Ad) : DS :=
  sIf (dNot (dTru (hOf (dCall (ds__law_alike a) [] (dCons (dVar 7) (dCons (dTup (dCons (dC (.str "round")) (dCons (dOp kIx (hSl 6) (hOf (dC (.int 0)))) (dCons (dC (.bl true)) (dNil))))) (dNil)))))))
  (t_law_s9 a)
  (sNx)
def t_law_s11 (a : Ad) : DS :=
  sIf (dTest (dOp kEq (hSl 6) (hOf (dLst (dNil)))))
  (sSeq (t_law_s6 a)
  (t_law_s8 a))
  (t_law_s10 a)
def t_law_b1 (a : Ad) : DS :=
  sSeq (t_law_s1 a)
  (sSeq (t_law_s2 a)
  (sSeq (t_law_s3 a)
  (sSeq (t_law_s4 a)
  (t_law_s11 a))))
def t_law_s12 (a : Ad) : DS :=
  sFor (iRng1D (dCons (dC (.int 3)) (dNil))) (gNm 2)
  (t_law_b1 a)
def t_law_s13 (a : Ad) : DS :=
  sSet 3 (cOf (dCall (ds__law_pick a) [] (dCons (dVar 1) (dCons (dLst (dCons (dC (.int 24)) (dCons (dC (.int 24)) (dCons (dC (.int 23)) (dCons (dOp kAdd (hOf (dC (.int 9))) (hOf (dCall (ds__law_taken a) [] (dCons (dVar 1) (dCons (dC (.int 16)) (dNil)))))) (dNil)))))) (dNil)))))
def t_law_s14 (a : Ad) : DS :=
  sSet 4 (cOf (dCall (ds__law_needs a) [] (dCons (dVar 1) (dCons (dVar 3) (dNil)))))
def t_law_s15 (a : Ad) : DS :=
  sRet (dC (.bl false))
def t_law_s16 (a : Ad) : DS :=
  sIf (dOr (dTest (dOp kNe (hOf (dHeard a.BadArgument a.RoundAbout a.TooMany (dMake a.Todo (di_Todo a) [] (dCons (dVar 3) (dCons (dVar 4) (dNil)))))) (hOf (dTup (dNil))))) (dNot (dTru (hOf (dCall (ds__law_alike a) [] (dCons (dProp a.Todo (ds_Todo_needs a) (dMake a.Todo (di_Todo a) [] (dCons (dVar 3) (dCons (dVar 4) (dNil))))) (dCons (dVar 4) (dNil))))))))
  (t_law_s15 a)
  (sNx)
def t_law_s17 (a : Ad) : DS :=
  sRet (dC (.bl false))
def t_law_s18 (a : Ad) : DS :=
  sIf (dNot (dTru (hOf (dCall (ds__law_alike a) [] (dCons (dTup (dCons (dProp a.Todo (ds_Todo_needs a) (dMake a.Todo (di_Todo a) [.tup []] (dCons (dVar 3) (dNil)))) (dCons (dProp a.Todo (ds_Todo_many a) (dMake a.Todo (di_Todo a) [.tup []] (dCons (dVar 3) (dNil)))) (dCons (dProp a.Todo (ds_Todo_many a) (dMake a.Todo (di_Todo a) [.tup []] (dCons (dC (.int 0)) (dNil)))) (dNil))))) (dCons (dTup (dCons (dTup (dNil)) (dCons (dVar 3) (dCons (dC (.int 0)) (dNil))))) (dNil)))))))
  (t_law_s17 a)
  (sNx)
def t_law_s19 (a : Ad) : DS :=
  sRet (dCall (ds__law_refused a) [] (dCons (dVar 1) (dCons (dVar 3) (dNil))))
def t_law (a : Ad) : DS :=
  sSeq (t_law_s12 a)
  (sSeq (t_law_s13 a)
  (sSeq (t_law_s14 a)
  (sSeq (t_law_s16 a)
  (sSeq (t_law_s18 a)
  (t_law_s19 a)))))
theorem b_law {P : Program} {w : World} {c : Cfg} {mg : Str → Option Value} {base : Heap} {a : Ad} {A : Around} {outer : List Env} {s : Shared} {H : Hp} {E : XK} {f : Addr} {cd : Value} (Z : ZF P w c mg base a) (f2__law_taken : Callee P w c mg base "_law_taken" 1 ["row", "many"] (ds__law_taken a) []) (f2__law_needs : Callee P w c mg base "_law_needs" 3 ["row", "many"] (ds__law_needs a) []) (f2__law_pairs : Callee P w c mg base "_law_pairs" 2 ["row", "many"] (ds__law_pairs a) []) (f2__law_pick : Callee P w c mg base "_law_pick" 2 ["row", "some"] (ds__law_pick a) []) (f2__law_rings : Callee P w c mg base "_law_rings" 1 ["many", "needs"] (ds__law_rings a) []) (mk2_Todo : Maker P w c mg base "Todo" a.Todo 4 ["self", "many", "needs"] (di_Todo a) []) (p_Todo_many : PropF P w c mg base a.Todo "many" 1 ["self"] (ds_Todo_many a)) (f2__law_alike : Callee P w c mg base "_law_alike" 14 ["found", "due"] (ds__law_alike a) []) (p_Todo_needs : PropF P w c mg base a.Todo "needs" 1 ["self"] (ds_Todo_needs a)) (f1_is_todo : Callee P w c mg base "is_todo" 1 ["value"] (ds_is_todo a) []) (mk1_Todo : Maker P w c mg base "Todo" a.Todo 4 ["self", "many", "needs"] (di_Todo a) [.tup []]) (f2__law_refused : Callee P w c mg base "_law_refused" 15 ["row", "great"] (ds__law_refused a) []) {cl Pl : Addr} (HZ : HeardZ c mg a.BadArgument a.RoundAbout a.TooMany a.DueError) (hL : LamF c mg base cd "law.<locals>.<lambda>" cl Pl)
    (hr : Room (15) (A.deeper (envOfC "law" (defScope st_law) s.heap.objs.size f cd))) : PDSs (cxOf (L2.CX P w) P w c.K mg base N_law "law" (defScope st_law) f cd A outer s H E) c E (defBody st_law).tail (t_law a) :=
  have htk := takes_of (X := cxOf (L2.CX P w) P w c.K mg base N_law "law" (defScope st_law) f cd A outer s H E) rfl rfl rfl rfl
  have hpx := passes_call htk (fun _ _ _ _ h => h)
  have hpo := passes_of (X := cxOf (L2.CX P w) P w c.K mg base N_law "law" (defScope st_law) f cd A outer s H E) rfl
  have S := sc_law
  dss_cons (ds_for hpo rfl (pdi_range1 rfl Z.range (pda_cons (pd_int) (pda_nil))) (pdg_name S.nd rfl (by first | exact .inl rfl | exact .inr rfl))
    (dss_cons (ds_set S.nd rfl (by first | exact .inl rfl | exact .inr rfl) (pc_of (pd_fn f2__law_taken (hr.mono (by omega)) rfl hpx (pda_cons (pd_var (pv 1)) (pda_cons (pd_int) (pda_nil))))))
    (dss_cons (ds_set S.nd rfl (by first | exact .inl rfl | exact .inr rfl) (pc_of (pd_fn f2__law_pick (hr.mono (by omega)) rfl hpx (pda_cons (pd_var (pv 1)) (pda_cons (pd_lst (pda_cons (pd_fn f2__law_pairs (hr.mono (by omega)) rfl hpx (pda_cons (pd_var (pv 1)) (pda_cons (pd_var (pv 5)) (pda_nil)))) (pda_cons (pd_fn f2__law_needs (hr.mono (by omega)) rfl hpx (pda_cons (pd_var (pv 1)) (pda_cons (pd_var (pv 5)) (pda_nil)))) (pda_nil)))) (pda_nil))))))
    (dss_cons (ds_set S.nd rfl (by first | exact .inl rfl | exact .inr rfl) (pc_of (pd_fn f2__law_rings (hr.mono (by omega)) rfl hpx (pda_cons (pd_var (pv 5)) (pda_cons (pd_var (pv 4)) (pda_nil))))))
    (dss_cons (ds_set S.nd rfl (by first | exact .inl rfl | exact .inr rfl) (pc_of (pd_heard' HZ hL rfl rfl rfl rfl (k := 5) (hr.mono (by omega)) (LamX.lamS_by (by rfl)) rfl (fun _ _ _ _ _ => rfl) (fun A2 outer2 s2 H2 E2 f2 c2 hr2 => have htk2 := takes_of (X := LamX.lamCx _ A2 outer2 s2 H2 E2 _ f2 c2) rfl rfl rfl rfl; have hpx2 := passes_call htk2 (fun _ _ _ _ h => h); pd_make' mk2_Todo (hr2.mono (by omega)) rfl hpx2 (pda_cons (pd_var (pv 5)) (pda_cons (pd_var (pv 4)) (pda_nil)))))))
    (dss_one (ds_if (pdt_cmp (op_eqD hr.units) opd_eq (ph_sl (pv 6)) (ph_of (pd_lst (pda_nil))) rfl)
    (dss_cons (ds_if (PW.pt (pdw_or (pdt_cmp (op_neD hr.units) opd_ne (ph_sl (pv 7)) (ph_of (pd_tup (pda_nil))) rfl) (pdw_or (pdt_not (pdt_tru rfl (ph_of (pd_fn f2__law_alike (hr.mono (by omega)) rfl hpx (pda_cons (pd_prop' p_Todo_needs Z.cTodo (pd_make' mk2_Todo (hr.mono (by omega)) rfl hpx (pda_cons (pd_var (pv 5)) (pda_cons (pd_var (pv 4)) (pda_nil)))) (hr.mono (by omega)) rfl) (pda_cons (pd_var (pv 4)) (pda_nil))))))) (pdw_or1 (pdt_not (pdt_tru rfl (ph_of (pd_fn f2__law_alike (hr.mono (by omega)) rfl hpx (pda_cons (pd_prop' p_Todo_many Z.cTodo (pd_make' mk2_Todo (hr.mono (by omega)) rfl hpx (pda_cons (pd_var (pv 5)) (pda_cons (pd_var (pv 4)) (pda_nil)))) (hr.mono (by omega)) rfl) (pda_cons (pd_var (pv 5)) (pda_nil)))))))))))
    (dss_one (ds_ret (pd_bl)))
    (dss_nil))
    (dss_one (ds_if (PW.pt (pdw_or (pdt_cmp op_isNotD opd_isNot (ph_of (pd_fn f1_is_todo (hr.mono (by omega)) rfl hpx (pda_cons (pd_make' mk2_Todo (hr.mono (by omega)) rfl hpx (pda_cons (pd_var (pv 5)) (pda_cons (pd_var (pv 4)) (pda_nil)))) (pda_nil)))) (ph_of (pd_bl)) rfl) (pdw_or (pdt_cmp op_isNotD opd_isNot (ph_of (pd_fn f1_is_todo (hr.mono (by omega)) rfl hpx (pda_cons (pd_tup (pda_cons (pd_var (pv 5)) (pda_cons (pd_var (pv 4)) (pda_nil)))) (pda_nil)))) (ph_of (pd_bl)) rfl) (pdw_or1 (pdt_cmp op_isNotD opd_isNot (ph_of (pd_fn f1_is_todo (hr.mono (by omega)) rfl hpx (pda_cons (pd_non) (pda_nil)))) (ph_of (pd_bl)) rfl)))))
    (dss_one (ds_ret (pd_bl)))
    (dss_nil))))
    (dss_one (ds_if (pdt_not (pdt_tru rfl (ph_of (pd_fn f2__law_alike (hr.mono (by omega)) rfl hpx (pda_cons (pd_var (pv 7)) (pda_cons (pd_tup (pda_cons (pd_str) (pda_cons (pd_ix rfl (ph_sl (pv 6)) (ph_of (pd_int))) (pda_cons (pd_bl) (pda_nil))))) (pda_nil)))))))
    (dss_one (ds_ret (pd_bl)))
    (dss_nil))))))))))
    (dss_cons (ds_set S.nd rfl (by first | exact .inl rfl | exact .inr rfl) (pc_of (pd_fn f2__law_pick (hr.mono (by omega)) rfl hpx (pda_cons (pd_var (pv 1)) (pda_cons (pd_lst (pda_cons (pd_int) (pda_cons (pd_int) (pda_cons (pd_int) (pda_cons (pd_op op_addD opd_add (ph_of (pd_int)) (ph_of (pd_fn f2__law_taken (hr.mono (by omega)) rfl hpx (pda_cons (pd_var (pv 1)) (pda_cons (pd_int) (pda_nil)))))) (pda_nil)))))) (pda_nil))))))
    (dss_cons (ds_set S.nd rfl (by first | exact .inl rfl | exact .inr rfl) (pc_of (pd_fn f2__law_needs (hr.mono (by omega)) rfl hpx (pda_cons (pd_var (pv 1)) (pda_cons (pd_var (pv 3)) (pda_nil))))))
    (dss_cons (ds_if (PW.pt (pdw_or (pdt_cmp (op_neD hr.units) opd_ne (ph_of (pd_heard' HZ hL rfl rfl rfl rfl (k := 5) (hr.mono (by omega)) (LamX.lamS_by (by rfl)) rfl (fun _ _ _ _ _ => rfl) (fun A2 outer2 s2 H2 E2 f2 c2 hr2 => have htk2 := takes_of (X := LamX.lamCx _ A2 outer2 s2 H2 E2 _ f2 c2) rfl rfl rfl rfl; have hpx2 := passes_call htk2 (fun _ _ _ _ h => h); pd_make' mk2_Todo (hr2.mono (by omega)) rfl hpx2 (pda_cons (pd_var (pv 3)) (pda_cons (pd_var (pv 4)) (pda_nil)))))) (ph_of (pd_tup (pda_nil))) rfl) (pdw_or1 (pdt_not (pdt_tru rfl (ph_of (pd_fn f2__law_alike (hr.mono (by omega)) rfl hpx (pda_cons (pd_prop' p_Todo_needs Z.cTodo (pd_make' mk2_Todo (hr.mono (by omega)) rfl hpx (pda_cons (pd_var (pv 3)) (pda_cons (pd_var (pv 4)) (pda_nil)))) (hr.mono (by omega)) rfl) (pda_cons (pd_var (pv 4)) (pda_nil))))))))))
    (dss_one (ds_ret (pd_bl)))
    (dss_nil))
    (dss_cons (ds_if (pdt_not (pdt_tru rfl (ph_of (pd_fn f2__law_alike (hr.mono (by omega)) rfl hpx (pda_cons (pd_tup (pda_cons (pd_prop' p_Todo_needs Z.cTodo (pd_make' mk1_Todo (hr.mono (by omega)) rfl hpx (pda_cons (pd_var (pv 3)) (pda_nil))) (hr.mono (by omega)) rfl) (pda_cons (pd_prop' p_Todo_many Z.cTodo (pd_make' mk1_Todo (hr.mono (by omega)) rfl hpx (pda_cons (pd_var (pv 3)) (pda_nil))) (hr.mono (by omega)) rfl) (pda_cons (pd_prop' p_Todo_many Z.cTodo (pd_make' mk1_Todo (hr.mono (by omega)) rfl hpx (pda_cons (pd_int) (pda_nil))) (hr.mono (by omega)) rfl) (pda_nil))))) (pda_cons (pd_tup (pda_cons (pd_tup (pda_nil)) (pda_cons (pd_var (pv 3)) (pda_cons (pd_int) (pda_nil))))) (pda_nil)))))))
    (dss_one (ds_ret (pd_bl)))
    (dss_nil))
    (dss_one (ds_ret (pd_fn f2__law_refused (hr.mono (by omega)) rfl hpx (pda_cons (pd_var (pv 1)) (pda_cons (pd_var (pv 3)) (pda_nil))))))))))

end D7
namespace D7
open PySem PySem.Spec PyProof.Rows L2
theorem okD_kind (OC : List Addr) : ∀ {n : Nat} {d : D}, okD n d = true → kindD OC d = true
  | n, d, h => by cases d <;> first | rfl | (cases n <;> simp [okD] at h)
theorem okD_mono : ∀ {n m : Nat} {d : D}, n ≤ m → okD n d = true → okD m d = true
  | n, m, .non, _, _ => by simp [okD]
  | n, m, .bl _, _, _ => by simp [okD]
  | n, m, .int _, _, _ => by simp [okD]
  | n, m, .str x, _, h => by
    have h : PyData.strOk x = true := by cases n <;> simpa [okD] using h
    cases m <;> simpa [okD] using h
  | 0, m, .lst ds, _, h => by simp [okD] at h
  | 0, m, .tup ds, _, h => by simp [okD] at h
  | n + 1, 0, .lst ds, l, h => by omega
  | n + 1, 0, .tup ds, l, h => by omega
  | n + 1, m + 1, .lst ds, l, h => by
    simp only [okD] at h ⊢
    exact okDs_mono (by omega) h
  | n + 1, m + 1, .tup ds, l, h => by
    simp only [okD] at h ⊢
    exact okDs_mono (by omega) h
  | n, m, .set _ _, _, h => by cases n <;> simp [okD] at h
  | n, m, .dic _, _, h => by cases n <;> simp [okD] at h
  | n, m, .dtu _, _, h => by cases n <;> simp [okD] at h
  | n, m, .obj _ _, _, h => by cases n <;> simp [okD] at h
  | n, m, .row, _, h => by cases n <;> simp [okD] at h
  | n, m, .scr _, _, h => by cases n <;> simp [okD] at h
where okDs_mono : ∀ {n m : Nat} {ds : List D}, n ≤ m → okDs n ds = true → okDs m ds = true
  | n, m, [], _, _ => by simp [okDs]
  | n, m, d :: ds, l, h => by
    have h : okD n d = true ∧ okDs n ds = true := by simpa [okDs] using h
    simp only [okDs, Bool.and_eq_true]
    exact ⟨okD_mono l h.1, okDs_mono l h.2⟩
theorem okDs_mem {n : Nat} : ∀ {ds : List D}, okDs n ds = true → ∀ d ∈ ds, okD n d = true
  | [], _, _, h => by cases h
  | d :: ds, h, e, he => by
    have h : okD n d = true ∧ okDs n ds = true := by simpa [okDs] using h
    rcases List.mem_cons.mp he with rfl | he
    · exact h.1
    · exact okDs_mem h.2 e he
theorem okDs_of {n : Nat} : ∀ {ds : List D}, (∀ d ∈ ds, okD n d = true) → okDs n ds = true
  | [], _ => by simp [okDs]
  | d :: ds, h => by
    simp only [okDs, Bool.and_eq_true]
    exact ⟨h d List.mem_cons_self, okDs_of fun e he => h e (List.mem_cons_of_mem _ he)⟩
theorem okD_pD (n : Nat) (p : Pr) : okD (n + 1) (pD p) = true := by simp [pD, okD, okDs]
theorem okDs_pD (n : Nat) (ps : List Pr) : okDs (n + 1) (ps.map pD) = true := okDs_of fun d hd => by
  obtain ⟨p, _, rfl⟩ := List.mem_map.mp hd
  exact okD_pD n p
theorem okD_nD (n : Nat) (ps : List Pr) : okD (n + 2) (nD ps) = true := by
  unfold nD
  simp only [okD]
  exact okDs_pD n ps
theorem okD_iD (n : Nat) (ns : List Int) : okD (n + 1) (iD ns) = true := by
  unfold iD
  simp only [okD]
  exact okDs_ints n ns
theorem atI_0 {x : D} {r : List D} : atI (x :: r) 0 = some x := by
  unfold atI ixN
  simp
theorem atI_1 {x y : D} {r : List D} : atI (x :: y :: r) 1 = some y := by
  unfold atI ixN
  have : (1 : Int) < (r.length : Int) + 1 + 1 := by omega
  simp [this]
theorem atI_last {x : D} {r : List D} : atI (r ++ [x]) (-1) = some x := by
  have e : ixN (r ++ [x]).length (-1) = some r.length := by
    unfold ixN
    rw [if_neg (by omega), if_pos (by rw [List.length_append, List.length_singleton]; omega)]
    congr 1
    rw [List.length_append, List.length_singleton]
    omega
  unfold atI
  rw [e, Option.bind_some, List.getElem?_append_right (Nat.le_refl _), Nat.sub_self]
  rfl
theorem atI_nat {α : Type} {xs : List α} {i : Int} {x : α} (h0 : 0 ≤ i) (h : xs[i.toNat]? = some x) : atI xs i = some x := by
  have lt : i.toNat < xs.length := (List.getElem?_eq_some_iff.mp h).1
  have lt2 : i < (xs.length : Int) := by omega
  unfold atI ixN
  rw [if_pos h0, if_pos lt2]
  exact h
theorem law_is_number (a : Ad) : ∀ args q ex, ds_is_number a args q ex → t_is_number a (startC 3 args) { nx := fun _ => q .non, rt := fun d _ => q d } ex := by
  rintro args q ex ⟨v, l, u, rfl, hk, h⟩
  unfold t_is_number
  simp only [sSeq, sIf, sRet, sRetN, sNx, sBk, sCt, sSet, sDrop, sAug, sAsg, sPar, sRaise, sSetF, cOf, cLst, cCb, cOp, dOf, dTest, dOp, dUn, dChain, dNot, dNotV, dAnd, dOr, dAndV, dOrV, dIf, dTru, dVar, dC, dCons, dNil, dTup, dLst, dCall, dCb, dIsT, dFld, dProp, dMake, dMethO, dMut, dCut, dTupR, dHeard, dnC, hSl, hOf, hNil, hCons, oSome, oNone, iSeq, iRng1D, iRng2D, gNm, gTp, gC0, gN0, gSto, dYes, kI0, kI, kU, kAdd, kMul, kEq, kNe, kLt, kIs, kIn, kInS, kIx, kLen, kList, kTuple, kInt, kRep, kAppend, kPopAt, kSAdd, kTru_bl, kTru_int, kTru_non, kTru_lst, kTru_tup, kTru_dic, isCell, peek, res, ress, cellD, startC, seqD, List.map_cons, List.map_nil, List.length_cons, List.length_nil, List.cons_append, List.nil_append, List.append_nil, List.replicate_succ, List.replicate_zero, Nat.reduceSub, Nat.reduceAdd, List.getElem?_cons_zero, List.getElem?_cons_succ, List.set_cons_zero, List.set_cons_succ, Option.bind_some, Option.some.injEq, Option.isSome_some, exists_eq_left, exists_eq_left', exists_eq_right, exists_eq_right', exists_and_left, exists_and_right, exists_const, and_assoc, and_true, true_and, Bool.not_true, Bool.not_false, reduceCtorEq, Option.map_some, D.obj.injEq, D.int.injEq, D.bl.injEq, D.lst.injEq, D.tup.injEq, D.str.injEq, Cell.fz.injEq, Cell.ow.injEq, Cell.os.injEq, List.cons.injEq, bIf_t, bIf_f, if_true, if_false, ite_true, ite_false, Bool.false_eq_true, and_self, false_and, and_false, implies_true]
  cases v <;> simp_all [isT, numD, kindD, tyD, bIf_t, bIf_f]
  exact bIf_of (fun e => by simpa [e] using h) (fun e => by simpa [e] using h)
theorem law_check (a : Ad) : ∀ args q ex, ds_check a args q ex → t_check a (startC 2 args) { nx := fun _ => q .non, rt := fun d _ => q d } ex := by
  rintro args q ex ⟨b, x, rfl, hl, h⟩
  unfold t_check
  simp only [sSeq, sIf, sRet, sRetN, sNx, sBk, sCt, sSet, sDrop, sAug, sAsg, sPar, sRaise, sSetF, cOf, cLst, cCb, cOp, dOf, dTest, dOp, dUn, dChain, dNot, dNotV, dAnd, dOr, dAndV, dOrV, dIf, dTru, dVar, dC, dCons, dNil, dTup, dLst, dCall, dCb, dIsT, dFld, dProp, dMake, dMethO, dMut, dCut, dTupR, dHeard, dnC, hSl, hOf, hNil, hCons, oSome, oNone, iSeq, iRng1D, iRng2D, gNm, gTp, gC0, gN0, gSto, dYes, kI0, kI, kU, kAdd, kMul, kEq, kNe, kLt, kIs, kIn, kInS, kIx, kLen, kList, kTuple, kInt, kRep, kAppend, kPopAt, kSAdd, kTru_bl, kTru_int, kTru_non, kTru_lst, kTru_tup, kTru_dic, isCell, peek, res, ress, cellD, startC, seqD, List.map_cons, List.map_nil, List.length_cons, List.length_nil, List.cons_append, List.nil_append, List.append_nil, List.replicate_succ, List.replicate_zero, Nat.reduceSub, Nat.reduceAdd, List.getElem?_cons_zero, List.getElem?_cons_succ, List.set_cons_zero, List.set_cons_succ, Option.bind_some, Option.some.injEq, Option.isSome_some, exists_eq_left, exists_eq_left', exists_eq_right, exists_eq_right', exists_and_left, exists_and_right, exists_const, and_assoc, and_true, true_and, Bool.not_true, Bool.not_false, reduceCtorEq, Option.map_some, D.obj.injEq, D.int.injEq, D.bl.injEq, D.lst.injEq, D.tup.injEq, D.str.injEq, Cell.fz.injEq, Cell.ow.injEq, Cell.os.injEq, List.cons.injEq, bIf_t, bIf_f, if_true, if_false, ite_true, ite_false, Bool.false_eq_true, and_self, false_and, and_false, implies_true]
  cases b <;> simp_all [fmtD, bIf_t, bIf_f]
theorem law_is_todo (a : Ad) : ∀ args q ex, ds_is_todo a args q ex → t_is_todo a (startC 1 args) { nx := fun _ => q .non, rt := fun d _ => q d } ex := by
  rintro args q ex ⟨v, rfl, hk, h⟩
  unfold t_is_todo
  simp only [sSeq, sIf, sRet, sRetN, sNx, sBk, sCt, sSet, sDrop, sAug, sAsg, sPar, sRaise, sSetF, cOf, cLst, cCb, cOp, dOf, dTest, dOp, dUn, dChain, dNot, dNotV, dAnd, dOr, dAndV, dOrV, dIf, dTru, dVar, dC, dCons, dNil, dTup, dLst, dCall, dCb, dIsT, dFld, dProp, dMake, dMethO, dMut, dCut, dTupR, dHeard, dnC, hSl, hOf, hNil, hCons, oSome, oNone, iSeq, iRng1D, iRng2D, gNm, gTp, gC0, gN0, gSto, dYes, kI0, kI, kU, kAdd, kMul, kEq, kNe, kLt, kIs, kIn, kInS, kIx, kLen, kList, kTuple, kInt, kRep, kAppend, kPopAt, kSAdd, kTru_bl, kTru_int, kTru_non, kTru_lst, kTru_tup, kTru_dic, isCell, peek, res, ress, cellD, startC, seqD, List.map_cons, List.map_nil, List.length_cons, List.length_nil, List.cons_append, List.nil_append, List.append_nil, List.replicate_succ, List.replicate_zero, Nat.reduceSub, Nat.reduceAdd, List.getElem?_cons_zero, List.getElem?_cons_succ, List.set_cons_zero, List.set_cons_succ, Option.bind_some, Option.some.injEq, Option.isSome_some, exists_eq_left, exists_eq_left', exists_eq_right, exists_eq_right', exists_and_left, exists_and_right, exists_const, and_assoc, and_true, true_and, Bool.not_true, Bool.not_false, reduceCtorEq, Option.map_some, D.obj.injEq, D.int.injEq, D.bl.injEq, D.lst.injEq, D.tup.injEq, D.str.injEq, Cell.fz.injEq, Cell.ow.injEq, Cell.os.injEq, List.cons.injEq, bIf_t, bIf_f, if_true, if_false, ite_true, ite_false, Bool.false_eq_true, and_self, false_and, and_false, implies_true]
  exact ⟨hk, h⟩
theorem law_Todo_many (a : Ad) : ∀ args q ex, ds_Todo_many a args q ex → t_Todo_many a (startC 1 args) { nx := fun _ => q .non, rt := fun d _ => q d } ex := by
  rintro args q ex ⟨n, ps, rfl, h⟩
  unfold t_Todo_many
  simp only [sSeq, sIf, sRet, sRetN, sNx, sBk, sCt, sSet, sDrop, sAug, sAsg, sPar, sRaise, sSetF, cOf, cLst, cCb, cOp, dOf, dTest, dOp, dUn, dChain, dNot, dNotV, dAnd, dOr, dAndV, dOrV, dIf, dTru, dVar, dC, dCons, dNil, dTup, dLst, dCall, dCb, dIsT, dFld, dProp, dMake, dMethO, dMut, dCut, dTupR, dHeard, dnC, hSl, hOf, hNil, hCons, oSome, oNone, iSeq, iRng1D, iRng2D, gNm, gTp, gC0, gN0, gSto, dYes, kI0, kI, kU, kAdd, kMul, kEq, kNe, kLt, kIs, kIn, kInS, kIx, kLen, kList, kTuple, kInt, kRep, kAppend, kPopAt, kSAdd, kTru_bl, kTru_int, kTru_non, kTru_lst, kTru_tup, kTru_dic, isCell, peek, res, ress, cellD, startC, seqD, List.map_cons, List.map_nil, List.length_cons, List.length_nil, List.cons_append, List.nil_append, List.append_nil, List.replicate_succ, List.replicate_zero, Nat.reduceSub, Nat.reduceAdd, List.getElem?_cons_zero, List.getElem?_cons_succ, List.set_cons_zero, List.set_cons_succ, Option.bind_some, Option.some.injEq, Option.isSome_some, exists_eq_left, exists_eq_left', exists_eq_right, exists_eq_right', exists_and_left, exists_and_right, exists_const, and_assoc, and_true, true_and, Bool.not_true, Bool.not_false, reduceCtorEq, Option.map_some, D.obj.injEq, D.int.injEq, D.bl.injEq, D.lst.injEq, D.tup.injEq, D.str.injEq, Cell.fz.injEq, Cell.ow.injEq, Cell.os.injEq, List.cons.injEq, bIf_t, bIf_f, if_true, if_false, ite_true, ite_false, Bool.false_eq_true, and_self, false_and, and_false, implies_true]
  exact ⟨_, rfl, h⟩
theorem law_Todo_needs (a : Ad) : ∀ args q ex, ds_Todo_needs a args q ex → t_Todo_needs a (startC 1 args) { nx := fun _ => q .non, rt := fun d _ => q d } ex := by
  rintro args q ex ⟨n, ps, rfl, h⟩
  unfold t_Todo_needs
  simp only [sSeq, sIf, sRet, sRetN, sNx, sBk, sCt, sSet, sDrop, sAug, sAsg, sPar, sRaise, sSetF, cOf, cLst, cCb, cOp, dOf, dTest, dOp, dUn, dChain, dNot, dNotV, dAnd, dOr, dAndV, dOrV, dIf, dTru, dVar, dC, dCons, dNil, dTup, dLst, dCall, dCb, dIsT, dFld, dProp, dMake, dMethO, dMut, dCut, dTupR, dHeard, dnC, hSl, hOf, hNil, hCons, oSome, oNone, iSeq, iRng1D, iRng2D, gNm, gTp, gC0, gN0, gSto, dYes, kI0, kI, kU, kAdd, kMul, kEq, kNe, kLt, kIs, kIn, kInS, kIx, kLen, kList, kTuple, kInt, kRep, kAppend, kPopAt, kSAdd, kTru_bl, kTru_int, kTru_non, kTru_lst, kTru_tup, kTru_dic, isCell, peek, res, ress, cellD, startC, seqD, List.map_cons, List.map_nil, List.length_cons, List.length_nil, List.cons_append, List.nil_append, List.append_nil, List.replicate_succ, List.replicate_zero, Nat.reduceSub, Nat.reduceAdd, List.getElem?_cons_zero, List.getElem?_cons_succ, List.set_cons_zero, List.set_cons_succ, Option.bind_some, Option.some.injEq, Option.isSome_some, exists_eq_left, exists_eq_left', exists_eq_right, exists_eq_right', exists_and_left, exists_and_right, exists_const, and_assoc, and_true, true_and, Bool.not_true, Bool.not_false, reduceCtorEq, Option.map_some, D.obj.injEq, D.int.injEq, D.bl.injEq, D.lst.injEq, D.tup.injEq, D.str.injEq, Cell.fz.injEq, Cell.ow.injEq, Cell.os.injEq, List.cons.injEq, bIf_t, bIf_f, if_true, if_false, ite_true, ite_false, Bool.false_eq_true, and_self, false_and, and_false, implies_true]
  exact ⟨_, rfl, h⟩
theorem law__law_pick (a : Ad) : ∀ args q ex, ds__law_pick a args q ex → t__law_pick a (startC 2 args) { nx := fun _ => q .non, rt := fun d _ => q d } ex := by
  rintro args q ex ⟨xs, rfl, h0, h1, h⟩
  unfold t__law_pick
  simp only [sSeq, sIf, sRet, sRetN, sNx, sBk, sCt, sSet, sDrop, sAug, sAsg, sPar, sRaise, sSetF, cOf, cLst, cCb, cOp, dOf, dTest, dOp, dUn, dChain, dNot, dNotV, dAnd, dOr, dAndV, dOrV, dIf, dTru, dVar, dC, dCons, dNil, dTup, dLst, dCall, dCb, dIsT, dFld, dProp, dMake, dMethO, dMut, dCut, dTupR, dHeard, dnC, hSl, hOf, hNil, hCons, oSome, oNone, iSeq, iRng1D, iRng2D, gNm, gTp, gC0, gN0, gSto, dYes, kI0, kI, kU, kAdd, kMul, kEq, kNe, kLt, kIs, kIn, kInS, kIx, kLen, kList, kTuple, kInt, kRep, kAppend, kPopAt, kSAdd, kTru_bl, kTru_int, kTru_non, kTru_lst, kTru_tup, kTru_dic, isCell, peek, res, ress, cellD, startC, seqD, List.map_cons, List.map_nil, List.length_cons, List.length_nil, List.cons_append, List.nil_append, List.append_nil, List.replicate_succ, List.replicate_zero, Nat.reduceSub, Nat.reduceAdd, List.getElem?_cons_zero, List.getElem?_cons_succ, List.set_cons_zero, List.set_cons_succ, Option.bind_some, Option.some.injEq, Option.isSome_some, exists_eq_left, exists_eq_left', exists_eq_right, exists_eq_right', exists_and_left, exists_and_right, exists_const, and_assoc, and_true, true_and, Bool.not_true, Bool.not_false, reduceCtorEq, Option.map_some, D.obj.injEq, D.int.injEq, D.bl.injEq, D.lst.injEq, D.tup.injEq, D.str.injEq, Cell.fz.injEq, Cell.ow.injEq, Cell.os.injEq, List.cons.injEq, bIf_t, bIf_f, if_true, if_false, ite_true, ite_false, Bool.false_eq_true, and_self, false_and, and_false, implies_true]
  intro _
  refine ⟨xs.length, rfl, by omega, by omega, fun r hr hr2 => ?_⟩
  have lt : r.toNat < xs.length := by omega
  refine ⟨xs[r.toNat], ?_, h _ (List.getElem_mem lt)⟩
  unfold atI ixN
  simp [hr, hr2, lt]
end D7
namespace D7
open PySem PySem.Spec PyProof.Rows L2
theorem pairD_some {n : Int} {d : D} {p : Pr} (h : pairD n d = some p) : d = pD p ∧ okP n p := by
  unfold pairD at h
  split at h
  · split at h
    · rename_i x y hp
      cases h
      exact ⟨rfl, of_decide_eq_true (p := (x, y).1 ≠ (x, y).2 ∧ 0 ≤ (x, y).1 ∧ (x, y).1 < n ∧ 0 ≤ (x, y).2 ∧ (x, y).2 < n) hp⟩
    · cases h
  · cases h
theorem pairsD_some {n : Int} : ∀ {ds : List D} {ps : List Pr}, pairsD n ds = some ps → ds = ps.map pD ∧ ∀ p ∈ ps, okP n p
  | [], ps, h => by cases h; exact ⟨rfl, fun _ h => by cases h⟩
  | d :: ds, ps, h => by
    obtain ⟨p, h1, h2⟩ := Option.bind_eq_some_iff.mp h
    obtain ⟨qs, h3, h4⟩ := Option.map_eq_some_iff.mp h2
    subst h4
    obtain ⟨e1, e2⟩ := pairD_some h1
    obtain ⟨e3, e4⟩ := pairsD_some h3
    refine ⟨by rw [e1, e3]; rfl, fun r hr => ?_⟩
    rcases List.mem_cons.mp hr with rfl | hr
    · exact e2
    · exact e4 r hr
theorem pairsD_pD {n : Int} : ∀ {ps : List Pr}, (∀ p ∈ ps, okP n p) → pairsD n (ps.map pD) = some ps
  | [], _ => rfl
  | p :: ps, h => by
    have h1 : pairD n (pD p) = some p := by
      unfold pairD pD
      simp only
      rw [if_pos (show okPB n (p.1, p.2) = true from decide_eq_true (h p List.mem_cons_self))]
    show ((pairD n (pD p)).bind fun p => (pairsD n (ps.map pD)).map (p :: ·)) = _
    rw [h1, pairsD_pD fun q hq => h q (List.mem_cons_of_mem _ hq)]
    rfl
theorem Sound.needs {n : Int} {ps : List Pr} (h : Sound n ps) : needsD (nD ps) n = some ps := by
  unfold needsD nD
  simp only
  rw [pairsD_pD h.ok]
  simp [h.ch]
theorem needsD_some {n : Int} {v : D} {ps : List Pr} (h : needsD v n = some ps) : v = nD ps ∧ Sound n ps := by
  unfold needsD at h
  split at h
  · obtain ⟨qs, h1, h2⟩ := Option.bind_eq_some_iff.mp h
    split at h2
    · rename_i hc
      cases h2
      obtain ⟨e1, e2⟩ := pairsD_some h1
      exact ⟨by rw [e1]; rfl, e2, hc⟩
    · cases h2
  · cases h
theorem pairD_bad {n : Int} {e f : D} (h : numD e 0 (n - 1) = false ∨ numD f 0 (n - 1) = false) : pairD n (.tup [e, f]) = none := by
  unfold pairD
  split
  · rename_i x y heq
    cases heq
    have : okPB n (x, y) = false := by
      refine decide_eq_false fun hp => ?_
      simp only [numD, Bool.and_eq_false_iff, decide_eq_false_iff_not] at h
      omega
    rw [this]
    rfl
  · rfl
theorem pairD_good {n : Int} {e f : D} (he : eqD e f = false) (h : numD e 0 (n - 1) = true) (k : numD f 0 (n - 1) = true) : pairD n (.tup [e, f]) ≠ none := by
  cases e <;> first | (simp [numD] at h; done) | skip
  cases f <;> first | (simp [numD] at k; done) | skip
  rename_i i j
  simp only [numD, Bool.and_eq_true, decide_eq_true_eq] at h k
  have ne : i ≠ j := by simpa [eqD] using he
  unfold pairD
  simp only
  rw [if_pos (show okPB n (i, j) = true from decide_eq_true (by refine ⟨ne, ?_, ?_, ?_, ?_⟩ <;> (simp only; omega)))]
  exact nofun
theorem loop_needs {a : Ad} {n : Int} {v : D} {k : DK} {ex : XD} : ∀ (ds : List D) (x : Cell), okDs 49 ds = true → (∀ y, pairsD n ds ≠ none → k.nx [.fz v, .fz (.int n), y, .off, .off]) → (pairsD n ds = none → ∀ ρ, k.rt (.bl false) ρ) →
    forW (gNm 2) (t_are_needs_b1 a) k ex ds [.fz v, .fz (.int n), x, .off, .off]
  | [], x, _, h1, _ => h1 x (by simp [pairsD])
  | d :: ds, x, ok, h1, h2 => by
    obtain ⟨o1, o2⟩ : okD 49 d = true ∧ okDs 49 ds = true := by simpa [okDs] using ok
    have hk : kindD [a.Todo] d = true := okD_kind _ o1
    have ih := fun (hp : pairD n d ≠ none) => loop_needs (a := a) (n := n) (v := v) (k := k) (ex := ex) ds (.fz d) o2 (fun y hy => h1 y (by
      obtain ⟨p, hp⟩ := Option.ne_none_iff_exists'.mp hp
      obtain ⟨ps, hy⟩ := Option.ne_none_iff_exists'.mp hy
      simp [pairsD, hp, hy])) (fun hn => h2 (by simp [pairsD, hn]))
    have bad := fun (hp : pairD n d = none) => h2 (by simp [pairsD, hp])
    show gNm 2 d _ _ _
    generalize forW (gNm 2) (t_are_needs_b1 a) k ex ds = F at ih ⊢
    unfold t_are_needs_b1
    simp only [sSeq, sIf, sRet, sRetN, sNx, sBk, sCt, sSet, sDrop, sAug, sAsg, sPar, sRaise, sSetF, cOf, cLst, cCb, cOp, dOf, dTest, dOp, dUn, dChain, dNot, dNotV, dAnd, dOr, dAndV, dOrV, dIf, dTru, dVar, dC, dCons, dNil, dTup, dLst, dCall, dCb, dIsT, dFld, dProp, dMake, dMethO, dMut, dCut, dTupR, dHeard, dnC, hSl, hOf, hNil, hCons, oSome, oNone, iSeq, iRng1D, iRng2D, gNm, gTp, gC0, gN0, gSto, dYes, kI0, kI, kU, kAdd, kMul, kEq, kNe, kLt, kIs, kIn, kInS, kIx, kLen, kList, kTuple, kInt, kRep, kAppend, kPopAt, kSAdd, kTru_bl, kTru_int, kTru_non, kTru_lst, kTru_tup, kTru_dic, isCell, peek, res, ress, cellD, startC, seqD, List.map_cons, List.map_nil, List.length_cons, List.length_nil, List.cons_append, List.nil_append, List.append_nil, List.replicate_succ, List.replicate_zero, Nat.reduceSub, Nat.reduceAdd, List.getElem?_cons_zero, List.getElem?_cons_succ, List.set_cons_zero, List.set_cons_succ, Option.bind_some, Option.some.injEq, Option.isSome_some, exists_eq_left, exists_eq_left', exists_eq_right, exists_eq_right', exists_and_left, exists_and_right, exists_const, and_assoc, and_true, true_and, Bool.not_true, Bool.not_false, reduceCtorEq, Option.map_some, D.obj.injEq, D.int.injEq, D.bl.injEq, D.lst.injEq, D.tup.injEq, D.str.injEq, Cell.fz.injEq, Cell.ow.injEq, Cell.os.injEq, List.cons.injEq, bIf_t, bIf_f, if_true, if_false, ite_true, ite_false, Bool.false_eq_true, and_self, false_and, and_false, implies_true]
    cases d with
    | tup es =>
      match es, o1, hk, ih, bad with
      | [], o1, hk, ih, bad => simp_all [isT, tyD, pairD, okD, eqD, bIf_t, bIf_f]
      | [e], o1, hk, ih, bad => simp_all [isT, tyD, pairD, okD, eqD, bIf_t, bIf_f]
      | e :: f :: g :: r, o1, hk, ih, bad =>
        have : ((r.length : Int) + 1 + 1 + 1 == 2) = false := by
          rw [beq_eq_false_iff_ne]; omega
        simp_all [isT, tyD, pairD, okD, eqD, bIf_t, bIf_f]
        exact fun _ => bIf_of (fun _ => trivial) fun e => by simp at e; omega
      | [e, f], o1, hk, ih, bad =>
        have oe : okD 48 e = true ∧ okD 48 f = true := by simpa [okD, okDs] using o1
        have ke := okD_kind [a.Todo] oe.1
        have kf := okD_kind [a.Todo] oe.2
        have oe2 := okD_mono (show 48 ≤ 60 by omega) oe.1
        have of2 := okD_mono (show 48 ≤ 60 by omega) oe.2
        refine ⟨rfl, ?_⟩
        simp only [isT, tyD, atI_0, atI_1, okD, eqD, ds_is_number, sSeq, sIf, sRet, sRetN, sNx, sBk, sCt, sSet, sDrop, sAug, sAsg, sPar, sRaise, sSetF, cOf, cLst, cCb, cOp, dOf, dTest, dOp, dUn, dChain, dNot, dNotV, dAnd, dOr, dAndV, dOrV, dIf, dTru, dVar, dC, dCons, dNil, dTup, dLst, dCall, dCb, dIsT, dFld, dProp, dMake, dMethO, dMut, dCut, dTupR, dHeard, dnC, hSl, hOf, hNil, hCons, oSome, oNone, iSeq, iRng1D, iRng2D, gNm, gTp, gC0, gN0, gSto, dYes, kI0, kI, kU, kAdd, kMul, kEq, kNe, kLt, kIs, kIn, kInS, kIx, kLen, kList, kTuple, kInt, kRep, kAppend, kPopAt, kSAdd, kTru_bl, kTru_int, kTru_non, kTru_lst, kTru_tup, kTru_dic, isCell, peek, res, ress, cellD, startC, seqD, List.map_cons, List.map_nil, List.length_cons, List.length_nil, List.cons_append, List.nil_append, List.append_nil, List.replicate_succ, List.replicate_zero, Nat.reduceSub, Nat.reduceAdd, List.getElem?_cons_zero, List.getElem?_cons_succ, List.set_cons_zero, List.set_cons_succ, Option.bind_some, Option.some.injEq, Option.isSome_some, exists_eq_left, exists_eq_left', exists_eq_right, exists_eq_right', exists_and_left, exists_and_right, exists_const, and_assoc, and_true, true_and, Bool.not_true, Bool.not_false, reduceCtorEq, Option.map_some, D.obj.injEq, D.int.injEq, D.bl.injEq, D.lst.injEq, D.tup.injEq, D.str.injEq, Cell.fz.injEq, Cell.ow.injEq, Cell.os.injEq, List.cons.injEq, bIf_t, bIf_f, if_true, if_false, ite_true, ite_false, Bool.false_eq_true, and_self, false_and, and_false, implies_true]
        have r0 : (("tuple" : String) == "tuple") = true := rfl
        have r1 : ((2 : Int) == 2) = true := rfl
        have r2 : (!(([e, f].length : Int)) == 2) = false := rfl
        simp only [r0, r1, r2, oe2, of2, sSeq, sIf, sRet, sRetN, sNx, sBk, sCt, sSet, sDrop, sAug, sAsg, sPar, sRaise, sSetF, cOf, cLst, cCb, cOp, dOf, dTest, dOp, dUn, dChain, dNot, dNotV, dAnd, dOr, dAndV, dOrV, dIf, dTru, dVar, dC, dCons, dNil, dTup, dLst, dCall, dCb, dIsT, dFld, dProp, dMake, dMethO, dMut, dCut, dTupR, dHeard, dnC, hSl, hOf, hNil, hCons, oSome, oNone, iSeq, iRng1D, iRng2D, gNm, gTp, gC0, gN0, gSto, dYes, kI0, kI, kU, kAdd, kMul, kEq, kNe, kLt, kIs, kIn, kInS, kIx, kLen, kList, kTuple, kInt, kRep, kAppend, kPopAt, kSAdd, kTru_bl, kTru_int, kTru_non, kTru_lst, kTru_tup, kTru_dic, isCell, peek, res, ress, cellD, startC, seqD, List.map_cons, List.map_nil, List.length_cons, List.length_nil, List.cons_append, List.nil_append, List.append_nil, List.replicate_succ, List.replicate_zero, Nat.reduceSub, Nat.reduceAdd, List.getElem?_cons_zero, List.getElem?_cons_succ, List.set_cons_zero, List.set_cons_succ, Option.bind_some, Option.some.injEq, Option.isSome_some, exists_eq_left, exists_eq_left', exists_eq_right, exists_eq_right', exists_and_left, exists_and_right, exists_const, and_assoc, and_true, true_and, Bool.not_true, Bool.not_false, reduceCtorEq, Option.map_some, D.obj.injEq, D.int.injEq, D.bl.injEq, D.lst.injEq, D.tup.injEq, D.str.injEq, Cell.fz.injEq, Cell.ow.injEq, Cell.os.injEq, List.cons.injEq, bIf_t, bIf_f, if_true, if_false, ite_true, ite_false, Bool.false_eq_true, and_self, false_and, and_false, implies_true]
        refine fun _ => bIf_of (fun e' => Bool.noConfusion e') fun _ => ?_
        refine bIf_of (fun he => ?_) fun he => ?_
        · refine bad ?_ _
          unfold pairD
          split
          · rename_i x y heq
            cases heq
            have : x = y := by simpa [eqD] using he
            simp [okPB, this]
          · rfl
        · refine ⟨ke, ?_⟩
          cases h3 : numD e 0 (n - 1) with
          | false => exact bad (pairD_bad (.inl h3)) _
          | true =>
            refine ⟨kf, ?_⟩
            cases h4 : numD f 0 (n - 1) with
            | false => exact bad (pairD_bad (.inr h4)) _
            | true => exact ih (pairD_good (by simpa using he) h3 h4)
    | _ => simp_all [isT, tyD, pairD, bIf_t, bIf_f]
theorem asInts_pair (p : Pr) : asInts [.int p.1, .int p.2] = some [p.1, p.2] := rfl
theorem chain_zip {a : Ad} {v : D} {n : Int} {x : Cell} {kk : Bool → List Cell → Prop} (hk : ∀ b y z, kk b [.fz v, .fz (.int n), x, y, z]) : False → True := fun _ => trivial
theorem loop_chain {a : Ad} {v : D} {n : Int} {x : Cell} {kk : Bool → List Cell → Prop} : ∀ (ps : List Pr), (∀ y z, kk (chainB ps) [.fz v, .fz (.int n), x, y, z]) → ∀ y z,
    truW false (gTp 2 (gC0 (gNm 3) (gC0 (gNm 4) (gN0)))) (t_are_needs_i1 a) (t_are_needs_e1 a) [3, 4] kk (zipD (ps.map pD) ((ps.map pD).drop 1)) [.fz v, .fz (.int n), x, y, z]
  | [], h, y, z => by simpa [zipD, truW, chainB] using h y z
  | [p], h, y, z => by simpa [zipD, truW, chainB] using h y z
  | p :: q :: r, h, y, z => by
    have e : zipD ((p :: q :: r).map pD) (((p :: q :: r).map pD).drop 1) = .tup [pD p, pD q] :: zipD ((q :: r).map pD) (((q :: r).map pD).drop 1) := by simp [zipD]
    rw [e]
    have ih : chainB (q :: r) = chainB (q :: r) → ltP p q = true → ∀ y z, truW false (gTp 2 (gC0 (gNm 3) (gC0 (gNm 4) (gN0)))) (t_are_needs_i1 a) (t_are_needs_e1 a) [3, 4] kk (zipD ((q :: r).map pD) (((q :: r).map pD).drop 1)) [.fz v, .fz (.int n), x, y, z] := fun _ hl => loop_chain (q :: r) (fun y z => by
      have := h y z
      simpa [chainB, hl] using this)
    show gTp 2 _ _ _ _ _
    generalize truW false (gTp 2 (gC0 (gNm 3) (gC0 (gNm 4) (gN0)))) (t_are_needs_i1 a) (t_are_needs_e1 a) [3, 4] kk (zipD ((q :: r).map pD) (((q :: r).map pD).drop 1)) = F at ih ⊢
    unfold t_are_needs_i1 t_are_needs_e1
    simp only [sSeq, sIf, sRet, sRetN, sNx, sBk, sCt, sSet, sDrop, sAug, sAsg, sPar, sRaise, sSetF, cOf, cLst, cCb, cOp, dOf, dTest, dOp, dUn, dChain, dNot, dNotV, dAnd, dOr, dAndV, dOrV, dIf, dTru, dVar, dC, dCons, dNil, dTup, dLst, dCall, dCb, dIsT, dFld, dProp, dMake, dMethO, dMut, dCut, dTupR, dHeard, dnC, hSl, hOf, hNil, hCons, oSome, oNone, iSeq, iRng1D, iRng2D, gNm, gTp, gC0, gN0, gSto, dYes, kI0, kI, kU, kAdd, kMul, kEq, kNe, kLt, kIs, kIn, kInS, kIx, kLen, kList, kTuple, kInt, kRep, kAppend, kPopAt, kSAdd, kTru_bl, kTru_int, kTru_non, kTru_lst, kTru_tup, kTru_dic, isCell, peek, res, ress, cellD, startC, seqD, List.map_cons, List.map_nil, List.length_cons, List.length_nil, List.cons_append, List.nil_append, List.append_nil, List.replicate_succ, List.replicate_zero, Nat.reduceSub, Nat.reduceAdd, List.getElem?_cons_zero, List.getElem?_cons_succ, List.set_cons_zero, List.set_cons_succ, Option.bind_some, Option.some.injEq, Option.isSome_some, exists_eq_left, exists_eq_left', exists_eq_right, exists_eq_right', exists_and_left, exists_and_right, exists_const, and_assoc, and_true, true_and, Bool.not_true, Bool.not_false, reduceCtorEq, Option.map_some, D.obj.injEq, D.int.injEq, D.bl.injEq, D.lst.injEq, D.tup.injEq, D.str.injEq, Cell.fz.injEq, Cell.ow.injEq, Cell.os.injEq, List.cons.injEq, bIf_t, bIf_f, if_true, if_false, ite_true, ite_false, Bool.false_eq_true, and_self, false_and, and_false, implies_true, pD, asInts_pair, wipeC]
    cases hl : ltP p q with
    | true =>
      have hl2 : HT.lexLt [p.1, p.2] [q.1, q.2] = true := hl
      rw [hl2]
      exact ih rfl hl _ _
    | false =>
      have hl2 : HT.lexLt [p.1, p.2] [q.1, q.2] = false := hl
      rw [hl2]
      have := h .off .off
      have e : chainB (p :: q :: r) = false := by simp [chainB, hl]
      rw [e] at this
      exact this
theorem law_are_needs (a : Ad) : ∀ args q ex, ds_are_needs a args q ex → t_are_needs a (startC 5 args) { nx := fun _ => q .non, rt := fun d _ => q d } ex := by
  rintro args q ex ⟨v, n, rfl, ok, h⟩
  have hk : kindD [a.Todo] v = true := okD_kind _ ok
  unfold t_are_needs
  simp only [sSeq, sIf, sRet, sRetN, sNx, sBk, sCt, sSet, sDrop, sAug, sAsg, sPar, sRaise, sSetF, cOf, cLst, cCb, cOp, dOf, dTest, dOp, dUn, dChain, dNot, dNotV, dAnd, dOr, dAndV, dOrV, dIf, dTru, dVar, dC, dCons, dNil, dTup, dLst, dCall, dCb, dIsT, dFld, dProp, dMake, dMethO, dMut, dCut, dTupR, dHeard, dnC, hSl, hOf, hNil, hCons, oSome, oNone, iSeq, iRng1D, iRng2D, gNm, gTp, gC0, gN0, gSto, dYes, kI0, kI, kU, kAdd, kMul, kEq, kNe, kLt, kIs, kIn, kInS, kIx, kLen, kList, kTuple, kInt, kRep, kAppend, kPopAt, kSAdd, kTru_bl, kTru_int, kTru_non, kTru_lst, kTru_tup, kTru_dic, isCell, peek, res, ress, cellD, startC, seqD, List.map_cons, List.map_nil, List.length_cons, List.length_nil, List.cons_append, List.nil_append, List.append_nil, List.replicate_succ, List.replicate_zero, Nat.reduceSub, Nat.reduceAdd, List.getElem?_cons_zero, List.getElem?_cons_succ, List.set_cons_zero, List.set_cons_succ, Option.bind_some, Option.some.injEq, Option.isSome_some, exists_eq_left, exists_eq_left', exists_eq_right, exists_eq_right', exists_and_left, exists_and_right, exists_const, and_assoc, and_true, true_and, Bool.not_true, Bool.not_false, reduceCtorEq, Option.map_some, D.obj.injEq, D.int.injEq, D.bl.injEq, D.lst.injEq, D.tup.injEq, D.str.injEq, Cell.fz.injEq, Cell.ow.injEq, Cell.os.injEq, List.cons.injEq, bIf_t, bIf_f, if_true, if_false, ite_true, ite_false, Bool.false_eq_true, and_self, false_and, and_false, implies_true, sFor]
  refine ⟨hk, ?_⟩
  cases v with
  | tup ds =>
    have o2 : okDs 49 ds = true := by simpa [okD] using ok
    simp only [isT, tyD, sSeq, sIf, sRet, sRetN, sNx, sBk, sCt, sSet, sDrop, sAug, sAsg, sPar, sRaise, sSetF, cOf, cLst, cCb, cOp, dOf, dTest, dOp, dUn, dChain, dNot, dNotV, dAnd, dOr, dAndV, dOrV, dIf, dTru, dVar, dC, dCons, dNil, dTup, dLst, dCall, dCb, dIsT, dFld, dProp, dMake, dMethO, dMut, dCut, dTupR, dHeard, dnC, hSl, hOf, hNil, hCons, oSome, oNone, iSeq, iRng1D, iRng2D, gNm, gTp, gC0, gN0, gSto, dYes, kI0, kI, kU, kAdd, kMul, kEq, kNe, kLt, kIs, kIn, kInS, kIx, kLen, kList, kTuple, kInt, kRep, kAppend, kPopAt, kSAdd, kTru_bl, kTru_int, kTru_non, kTru_lst, kTru_tup, kTru_dic, isCell, peek, res, ress, cellD, startC, seqD, List.map_cons, List.map_nil, List.length_cons, List.length_nil, List.cons_append, List.nil_append, List.append_nil, List.replicate_succ, List.replicate_zero, Nat.reduceSub, Nat.reduceAdd, List.getElem?_cons_zero, List.getElem?_cons_succ, List.set_cons_zero, List.set_cons_succ, Option.bind_some, Option.some.injEq, Option.isSome_some, exists_eq_left, exists_eq_left', exists_eq_right, exists_eq_right', exists_and_left, exists_and_right, exists_const, and_assoc, and_true, true_and, Bool.not_true, Bool.not_false, reduceCtorEq, Option.map_some, D.obj.injEq, D.int.injEq, D.bl.injEq, D.lst.injEq, D.tup.injEq, D.str.injEq, Cell.fz.injEq, Cell.ow.injEq, Cell.os.injEq, List.cons.injEq, bIf_t, bIf_f, if_true, if_false, ite_true, ite_false, Bool.false_eq_true, and_self, false_and, and_false, implies_true]
    refine loop_needs ds .off o2 (fun y hy => ?_) (fun hn ρ => ?_)
    · obtain ⟨ps, hps⟩ := Option.ne_none_iff_exists'.mp hy
      obtain ⟨e, _⟩ := pairsD_some hps
      subst e
      simp only [sSeq, sIf, sRet, sRetN, sNx, sBk, sCt, sSet, sDrop, sAug, sAsg, sPar, sRaise, sSetF, cOf, cLst, cCb, cOp, dOf, dTest, dOp, dUn, dChain, dNot, dNotV, dAnd, dOr, dAndV, dOrV, dIf, dTru, dVar, dC, dCons, dNil, dTup, dLst, dCall, dCb, dIsT, dFld, dProp, dMake, dMethO, dMut, dCut, dTupR, dHeard, dnC, hSl, hOf, hNil, hCons, oSome, oNone, iSeq, iRng1D, iRng2D, gNm, gTp, gC0, gN0, gSto, dYes, kI0, kI, kU, kAdd, kMul, kEq, kNe, kLt, kIs, kIn, kInS, kIx, kLen, kList, kTuple, kInt, kRep, kAppend, kPopAt, kSAdd, kTru_bl, kTru_int, kTru_non, kTru_lst, kTru_tup, kTru_dic, isCell, peek, res, ress, cellD, startC, seqD, List.map_cons, List.map_nil, List.length_cons, List.length_nil, List.cons_append, List.nil_append, List.append_nil, List.replicate_succ, List.replicate_zero, Nat.reduceSub, Nat.reduceAdd, List.getElem?_cons_zero, List.getElem?_cons_succ, List.set_cons_zero, List.set_cons_succ, Option.bind_some, Option.some.injEq, Option.isSome_some, exists_eq_left, exists_eq_left', exists_eq_right, exists_eq_right', exists_and_left, exists_and_right, exists_const, and_assoc, and_true, true_and, Bool.not_true, Bool.not_false, reduceCtorEq, Option.map_some, D.obj.injEq, D.int.injEq, D.bl.injEq, D.lst.injEq, D.tup.injEq, D.str.injEq, Cell.fz.injEq, Cell.ow.injEq, Cell.os.injEq, List.cons.injEq, bIf_t, bIf_f, if_true, if_false, ite_true, ite_false, Bool.false_eq_true, and_self, false_and, and_false, implies_true, dTruG, iZipD]
      refine ⟨_, _, .inr ⟨rfl, rfl⟩, ?_⟩
      have ec : cutD (ps.map pD) (some 1) none = (ps.map pD).drop 1 := by
        unfold cutD HT.sIx
        simp only [List.length_map]
        rw [if_neg (by omega)]
        cases ps with
        | nil => rfl
        | cons p r =>
          have : min (1 : Int).toNat (p :: r).length = 1 := by simp
          rw [this]
          refine List.take_of_length_le ?_
          simp
      rw [ec]
      refine loop_chain ps (fun y z => ?_) .off .off
      have e2 : (needsD (.tup (ps.map pD)) n).isSome = chainB ps := by
        unfold needsD
        simp only [hps, Option.bind_some]
        cases chainB ps <;> rfl
      rw [← e2]
      exact h
    · simpa [needsD, hn] using h
  | _ => simp_all [isT, tyD, needsD, bIf_t, bIf_f]
end D7
/-! round ways, in plain words -/
namespace D7
theorem way_app {ps : List Pr} : ∀ {xs ys : List Int}, Way ps (xs ++ ys) ↔ Way ps xs ∧ Way ps ys ∧ ∀ x y, xs.getLast? = some x → ys.head? = some y → (x, y) ∈ ps
  | [], ys => by simp [Way]
  | [x], [] => by simp [Way]
  | [x], y :: ys => by
    simp [Way]
    exact ⟨fun h => ⟨h.2, h.1⟩, fun h => ⟨h.2, h.1⟩⟩
  | x :: z :: xs, ys => by
    have ih := way_app (ps := ps) (xs := z :: xs) (ys := ys)
    simp only [List.cons_append] at ih ⊢
    simp only [Way]
    rw [ih, List.getLast?_cons_cons]
    constructor
    · rintro ⟨a, b, c, d⟩; exact ⟨⟨a, b⟩, c, d⟩
    · rintro ⟨⟨a, b⟩, c, d⟩; exact ⟨a, b, c, d⟩
theorem way_mem {ps : List Pr} {n : Int} (s : Sound n ps) : ∀ {c : List Int} {x : Int}, Way ps c → x ∈ c → c.length ≥ 2 → 0 ≤ x ∧ x < n
  | [], _, _, h, _ => by cases h
  | [_], _, _, _, h => by simp at h
  | [a, b], x, w, h, _ => by
    have := s.ok _ w.1
    unfold okP at this
    simp at h
    simp at this
    rcases h with rfl | rfl <;> omega
  | a :: b :: d :: r, x, w, h, _ => by
    rcases List.mem_cons.mp h with rfl | h
    · have := s.ok _ w.1
      unfold okP at this
      simp at this
      omega
    · exact way_mem s w.2 h (by simp)
theorem Round.two {ps : List Pr} {n : Int} (s : Sound n ps) {c : List Int} (h : Round ps c) : 2 ≤ c.length := by
  match c, h with
  | [], h => exact absurd rfl h.ne
  | [x], h =>
    have := s.ok _ (h.back x x rfl rfl)
    exact absurd rfl this.1
  | _ :: _ :: _, _ => simp
theorem Round.mem {ps : List Pr} {n : Int} (s : Sound n ps) {c : List Int} (h : Round ps c) : ∀ x ∈ c, 0 ≤ x ∧ x < n := fun x hx => way_mem s h.way hx (h.two s)
theorem not_nodup {α : Type} [DecidableEq α] : ∀ {l : List α}, ¬ l.Nodup → ∃ l1 x l2 l3, l = l1 ++ x :: (l2 ++ x :: l3)
  | [], h => absurd List.nodup_nil h
  | a :: l, h => by
    by_cases ha : a ∈ l
    · obtain ⟨l2, l3, rfl⟩ := List.append_of_mem ha
      exact ⟨[], a, l2, l3, rfl⟩
    · have : ¬ l.Nodup := fun k => h (List.nodup_cons.mpr ⟨ha, k⟩)
      obtain ⟨l1, x, l2, l3, rfl⟩ := not_nodup this
      exact ⟨a :: l1, x, l2, l3, rfl⟩
/-- a way that meets itself holds a shorter round -/
theorem way_cut {ps : List Pr} {c : List Int} (w : Way ps c) (h : ¬ c.Nodup) : ∃ c', Round ps c' ∧ c'.length < c.length := by
  obtain ⟨l1, x, l2, l3, rfl⟩ := not_nodup h
  have w1 := (way_app.mp w).2.1
  have w2 : Way ps ((x :: l2) ++ (x :: l3)) := by simpa using w1
  obtain ⟨w3, _, w4⟩ := way_app.mp w2
  refine ⟨x :: l2, ⟨nofun, w3, fun y z hy hz => ?_⟩, by simp; omega⟩
  cases hz
  exact w4 y x hy rfl
theorem Round.nodup {ps : List Pr} {c : List Int} (h : Round ps c) (m : ∀ c', Round ps c' → c.length ≤ c'.length) : c.Nodup := by
  by_cases k : c.Nodup
  · exact k
  · obtain ⟨c', h1, h2⟩ := way_cut h.way k
    have := m c' h1
    omega
theorem nodup_le : ∀ (n : Nat) (l : List Int), l.Nodup → (∀ x ∈ l, 0 ≤ x ∧ x < n) → l.length ≤ n
  | 0, l, _, h => by
    cases l with
    | nil => exact Nat.le_refl _
    | cons x r => have := h x List.mem_cons_self; omega
  | n + 1, l, nd, h => by
    have h1 := nodup_le n (l.erase (n : Int)) (nd.erase _) fun x hx => by
      have hm := List.mem_of_mem_erase hx
      have hne : x ≠ (n : Int) := fun e => by
        subst e
        exact (List.Nodup.not_mem_erase nd) hx
      have := h x hm
      omega
    have h2 : l.length ≤ (l.erase (n : Int)).length + 1 := by
      rw [List.length_erase]
      split <;> omega
    omega
theorem Before.le {c c' : List Int} (h : Before c c') : c.length ≤ c'.length := by
  rcases h with h | h
  · omega
  · omega
theorem Round.small {ps : List Pr} {n : Int} (s : Sound n ps) {c : List Int} (h : Round ps c) (m : ∀ c', Round ps c' → c.length ≤ c'.length) : c.length ≤ n.toNat := by
  refine nodup_le n.toNat c (h.nodup m) fun x hx => ?_
  have := h.mem s x hx
  omega
theorem upward_no {ps : List Pr} (u : Upward ps) : ∀ c, ¬ Round ps c := fun c h => by
  obtain ⟨f, hf⟩ := u
  have key : ∀ (l : List Int) (x : Int), Way ps (x :: l) → ∀ y, (x :: l).getLast? = some y → f x ≤ f y := fun l => by
    induction l with
    | nil => intro x _ y e; cases e; exact Int.le_refl _
    | cons z r ih =>
      intro x w y e
      have h1 := hf _ w.1
      have h2 := ih z w.2 y (by rwa [List.getLast?_cons_cons] at e)
      simp only at h1
      omega
  match c, h with
  | [], h => exact h.ne rfl
  | x :: l, h =>
    obtain ⟨y, hy⟩ : ∃ y, (x :: l).getLast? = some y := ⟨_, List.getLast?_eq_some_getLast (by simp)⟩
    have h1 := key l x h.way y hy
    have h2 := hf _ (h.back y x hy rfl)
    simp only at h2
    omega
end D7
namespace D7
open PySem PySem.Spec PyProof.Rows L2
theorem maskStep_length (f : List Int) (p : Pr) : (maskStep f p).length = f.length := by unfold maskStep; rw [List.length_set]
theorem ixN_nat {m : Nat} {i : Int} (h0 : 0 ≤ i) (h : i < m) : ixN m i = some i.toNat := by
  unfold ixN
  rw [if_pos h0, if_pos h]
theorem loop_mask1 {a : Ad} {n : Int} {o : D} {k : DK} {ex : XD} {t : Cell} : ∀ (ps : List Pr) (f : List Int) (y z : Cell), (∀ p ∈ ps, okP n p) → (f.length : Int) = n → n ≤ 24 →
    (∀ y z, k.nx [.fz o, .ow ((ps.foldl maskStep f).map .int), t, y, z]) →
    forW (gTp 2 (gC0 (gNm 3) (gC0 (gNm 4) (gN0)))) (t_Todo__masks_b1 a) k ex (ps.map pD) [.fz o, .ow (f.map .int), t, y, z]
  | [], f, y, z, _, _, _, h => h y z
  | p :: ps, f, y, z, hp, hf, hn, h => by
    obtain ⟨q0, q1, q2, q3, q4⟩ := hp p List.mem_cons_self
    have ih := loop_mask1 (a := a) (k := k) (ex := ex) (t := t) (o := o) ps (maskStep f p) (.fz (.int p.1)) (.fz (.int p.2)) (fun q hq => hp q (List.mem_cons_of_mem _ hq)) (by rw [maskStep_length]; exact hf) hn h
    show gTp 2 _ _ _ _ _
    generalize forW (gTp 2 (gC0 (gNm 3) (gC0 (gNm 4) (gN0)))) (t_Todo__masks_b1 a) k ex (ps.map pD) = F at ih ⊢
    unfold t_Todo__masks_b1
    simp only [sSeq, sIf, sRet, sRetN, sNx, sBk, sCt, sSet, sDrop, sAug, sAsg, sPar, sRaise, sSetF, cOf, cLst, cCb, cOp, dOf, dTest, dOp, dUn, dChain, dNot, dNotV, dAnd, dOr, dAndV, dOrV, dIf, dTru, dVar, dC, dCons, dNil, dTup, dLst, dCall, dCb, dIsT, dFld, dProp, dMake, dMethO, dMut, dCut, dTupR, dHeard, dnC, hSl, hOf, hNil, hCons, oSome, oNone, iSeq, iRng1D, iRng2D, gNm, gTp, gC0, gN0, gSto, dYes, kI0, kI, kU, kAdd, kMul, kEq, kNe, kLt, kIs, kIn, kInS, kIx, kLen, kList, kTuple, kInt, kRep, kAppend, kPopAt, kSAdd, kTru_bl, kTru_int, kTru_non, kTru_lst, kTru_tup, kTru_dic, isCell, peek, res, ress, cellD, startC, seqD, List.map_cons, List.map_nil, List.length_cons, List.length_nil, List.cons_append, List.nil_append, List.append_nil, List.replicate_succ, List.replicate_zero, Nat.reduceSub, Nat.reduceAdd, List.getElem?_cons_zero, List.getElem?_cons_succ, List.set_cons_zero, List.set_cons_succ, Option.bind_some, Option.some.injEq, Option.isSome_some, exists_eq_left, exists_eq_left', exists_eq_right, exists_eq_right', exists_and_left, exists_and_right, exists_const, and_assoc, and_true, true_and, Bool.not_true, Bool.not_false, reduceCtorEq, Option.map_some, D.obj.injEq, D.int.injEq, D.bl.injEq, D.lst.injEq, D.tup.injEq, D.str.injEq, Cell.fz.injEq, Cell.ow.injEq, Cell.os.injEq, List.cons.injEq, bIf_t, bIf_f, if_true, if_false, ite_true, ite_false, Bool.false_eq_true, and_self, false_and, and_false, implies_true, pD, List.length_map]
    have l2 : p.2.toNat < f.length := by omega
    have l1 : p.1.toNat < f.length := by omega
    have e2 : atI (f.map D.int) p.2 = some (.int (f.getD p.2.toNat 0)) := atI_nat q3 (by rw [List.getElem?_map, List.getD_eq_getElem?_getD, List.getElem?_eq_getElem l2]; rfl)
    have e1 : atI (f.map D.int) p.1 = some (.int (f.getD p.1.toNat 0)) := atI_nat q1 (by rw [List.getElem?_map, List.getD_eq_getElem?_getD, List.getElem?_eq_getElem l1]; rfl)
    simp only [e1, e2, sSeq, sIf, sRet, sRetN, sNx, sBk, sCt, sSet, sDrop, sAug, sAsg, sPar, sRaise, sSetF, cOf, cLst, cCb, cOp, dOf, dTest, dOp, dUn, dChain, dNot, dNotV, dAnd, dOr, dAndV, dOrV, dIf, dTru, dVar, dC, dCons, dNil, dTup, dLst, dCall, dCb, dIsT, dFld, dProp, dMake, dMethO, dMut, dCut, dTupR, dHeard, dnC, hSl, hOf, hNil, hCons, oSome, oNone, iSeq, iRng1D, iRng2D, gNm, gTp, gC0, gN0, gSto, dYes, kI0, kI, kU, kAdd, kMul, kEq, kNe, kLt, kIs, kIn, kInS, kIx, kLen, kList, kTuple, kInt, kRep, kAppend, kPopAt, kSAdd, kTru_bl, kTru_int, kTru_non, kTru_lst, kTru_tup, kTru_dic, isCell, peek, res, ress, cellD, startC, seqD, List.map_cons, List.map_nil, List.length_cons, List.length_nil, List.cons_append, List.nil_append, List.append_nil, List.replicate_succ, List.replicate_zero, Nat.reduceSub, Nat.reduceAdd, List.getElem?_cons_zero, List.getElem?_cons_succ, List.set_cons_zero, List.set_cons_succ, Option.bind_some, Option.some.injEq, Option.isSome_some, exists_eq_left, exists_eq_left', exists_eq_right, exists_eq_right', exists_and_left, exists_and_right, exists_const, and_assoc, and_true, true_and, Bool.not_true, Bool.not_false, reduceCtorEq, Option.map_some, D.obj.injEq, D.int.injEq, D.bl.injEq, D.lst.injEq, D.tup.injEq, D.str.injEq, Cell.fz.injEq, Cell.ow.injEq, Cell.os.injEq, List.cons.injEq, bIf_t, bIf_f, if_true, if_false, ite_true, ite_false, Bool.false_eq_true, and_self, false_and, and_false, implies_true]
    refine ⟨⟨q1, by omega, by decide⟩, ⟨_, rfl⟩, _, ixN_nat q3 (by omega), ?_⟩
    rw [← List.map_set]
    exact ih
theorem maskFold_length (ps : List Pr) : ∀ f : List Int, (ps.foldl maskStep f).length = f.length := by
  induction ps with
  | nil => exact fun _ => rfl
  | cons p r ih => exact fun f => (ih _).trans (maskStep_length f p)
theorem loop_mask2 {a : Ad} {n : Int} {fs : List (Str × D)} {ps : List Pr} {k : DK} {ex : XD} (hl : fs.lookup ("_needs" : Str) = some (nD ps)) (hp : ∀ p ∈ ps, okP n p) (hn : n ≤ 24) : ∀ (items : List D) (f : List Int) (t y z : Cell), (f.length : Int) = n →
    (∀ t y z, k.nx [.fz (.obj a.Todo fs), .ow ((items.foldl (fun f _ => ps.foldl maskStep f) f).map .int), t, y, z]) →
    forW (gNm 2) (t_Todo__masks_b2 a) k ex items [.fz (.obj a.Todo fs), .ow (f.map .int), t, y, z]
  | [], f, t, y, z, _, h => h t y z
  | d :: items, f, t, y, z, hf, h => by
    have ih := fun y z => loop_mask2 (a := a) (k := k) (ex := ex) hl hp hn items (ps.foldl maskStep f) (.fz d) y z (by rw [maskFold_length]; exact hf) h
    show gNm 2 d _ _ _
    generalize forW (gNm 2) (t_Todo__masks_b2 a) k ex items = F at ih ⊢
    unfold t_Todo__masks_b2
    simp only [sSeq, sIf, sRet, sRetN, sNx, sBk, sCt, sSet, sDrop, sAug, sAsg, sPar, sRaise, sSetF, cOf, cLst, cCb, cOp, dOf, dTest, dOp, dUn, dChain, dNot, dNotV, dAnd, dOr, dAndV, dOrV, dIf, dTru, dVar, dC, dCons, dNil, dTup, dLst, dCall, dCb, dIsT, dFld, dProp, dMake, dMethO, dMut, dCut, dTupR, dHeard, dnC, hSl, hOf, hNil, hCons, oSome, oNone, iSeq, iRng1D, iRng2D, gNm, gTp, gC0, gN0, gSto, dYes, kI0, kI, kU, kAdd, kMul, kEq, kNe, kLt, kIs, kIn, kInS, kIx, kLen, kList, kTuple, kInt, kRep, kAppend, kPopAt, kSAdd, kTru_bl, kTru_int, kTru_non, kTru_lst, kTru_tup, kTru_dic, isCell, peek, res, ress, cellD, startC, seqD, List.map_cons, List.map_nil, List.length_cons, List.length_nil, List.cons_append, List.nil_append, List.append_nil, List.replicate_succ, List.replicate_zero, Nat.reduceSub, Nat.reduceAdd, List.getElem?_cons_zero, List.getElem?_cons_succ, List.set_cons_zero, List.set_cons_succ, Option.bind_some, Option.some.injEq, Option.isSome_some, exists_eq_left, exists_eq_left', exists_eq_right, exists_eq_right', exists_and_left, exists_and_right, exists_const, and_assoc, and_true, true_and, Bool.not_true, Bool.not_false, reduceCtorEq, Option.map_some, D.obj.injEq, D.int.injEq, D.bl.injEq, D.lst.injEq, D.tup.injEq, D.str.injEq, Cell.fz.injEq, Cell.ow.injEq, Cell.os.injEq, List.cons.injEq, bIf_t, bIf_f, if_true, if_false, ite_true, ite_false, Bool.false_eq_true, and_self, false_and, and_false, implies_true, sFor, hl, nD]
    exact loop_mask1 ps f y z hp hf hn ih
theorem law_Todo__masks (a : Ad) : ∀ args q ex, ds_Todo__masks a args q ex → t_Todo__masks a (startC 5 args) { nx := fun _ => q .non, rt := fun d _ => q d } ex := by
  rintro args q ex ⟨fs, n, ps, rfl, h1, h2, hs, h0, hn, h⟩
  unfold t_Todo__masks
  simp only [sSeq, sIf, sRet, sRetN, sNx, sBk, sCt, sSet, sDrop, sAug, sAsg, sPar, sRaise, sSetF, cOf, cLst, cCb, cOp, dOf, dTest, dOp, dUn, dChain, dNot, dNotV, dAnd, dOr, dAndV, dOrV, dIf, dTru, dVar, dC, dCons, dNil, dTup, dLst, dCall, dCb, dIsT, dFld, dProp, dMake, dMethO, dMut, dCut, dTupR, dHeard, dnC, hSl, hOf, hNil, hCons, oSome, oNone, iSeq, iRng1D, iRng2D, gNm, gTp, gC0, gN0, gSto, dYes, kI0, kI, kU, kAdd, kMul, kEq, kNe, kLt, kIs, kIn, kInS, kIx, kLen, kList, kTuple, kInt, kRep, kAppend, kPopAt, kSAdd, kTru_bl, kTru_int, kTru_non, kTru_lst, kTru_tup, kTru_dic, isCell, peek, res, ress, cellD, startC, seqD, List.map_cons, List.map_nil, List.length_cons, List.length_nil, List.cons_append, List.nil_append, List.append_nil, List.replicate_succ, List.replicate_zero, Nat.reduceSub, Nat.reduceAdd, List.getElem?_cons_zero, List.getElem?_cons_succ, List.set_cons_zero, List.set_cons_succ, Option.bind_some, Option.some.injEq, Option.isSome_some, exists_eq_left, exists_eq_left', exists_eq_right, exists_eq_right', exists_and_left, exists_and_right, exists_const, and_assoc, and_true, true_and, Bool.not_true, Bool.not_false, reduceCtorEq, Option.map_some, D.obj.injEq, D.int.injEq, D.bl.injEq, D.lst.injEq, D.tup.injEq, D.str.injEq, Cell.fz.injEq, Cell.ow.injEq, Cell.os.injEq, List.cons.injEq, bIf_t, bIf_f, if_true, if_false, ite_true, ite_false, Bool.false_eq_true, and_self, false_and, and_false, implies_true, sFor, h1]
  have e0 : (List.replicate n.toNat [D.int 0]).flatten = (List.replicate n.toNat (0 : Int)).map .int := by
    generalize n.toNat = m
    induction m with
    | zero => rfl
    | succ m ih => rw [List.replicate_succ, List.replicate_succ, List.flatten_cons, ih]; rfl
  rw [e0]
  have e1 : (2 : Int) ^ 62 = 4611686018427387904 := by decide
  have e2 : (2 : Int) ^ 63 = 9223372036854775808 := by decide
  have sl := sizeLine_eq
  refine ⟨by decide, by omega, by omega, by omega, by omega, by omega, ?_⟩
  refine loop_mask2 h2 hs.ok hn _ _ _ _ _ (by rw [List.length_replicate]; omega) fun t y z => ?_
  simp only [sSeq, sIf, sRet, sRetN, sNx, sBk, sCt, sSet, sDrop, sAug, sAsg, sPar, sRaise, sSetF, cOf, cLst, cCb, cOp, dOf, dTest, dOp, dUn, dChain, dNot, dNotV, dAnd, dOr, dAndV, dOrV, dIf, dTru, dVar, dC, dCons, dNil, dTup, dLst, dCall, dCb, dIsT, dFld, dProp, dMake, dMethO, dMut, dCut, dTupR, dHeard, dnC, hSl, hOf, hNil, hCons, oSome, oNone, iSeq, iRng1D, iRng2D, gNm, gTp, gC0, gN0, gSto, dYes, kI0, kI, kU, kAdd, kMul, kEq, kNe, kLt, kIs, kIn, kInS, kIx, kLen, kList, kTuple, kInt, kRep, kAppend, kPopAt, kSAdd, kTru_bl, kTru_int, kTru_non, kTru_lst, kTru_tup, kTru_dic, isCell, peek, res, ress, cellD, startC, seqD, List.map_cons, List.map_nil, List.length_cons, List.length_nil, List.cons_append, List.nil_append, List.append_nil, List.replicate_succ, List.replicate_zero, Nat.reduceSub, Nat.reduceAdd, List.getElem?_cons_zero, List.getElem?_cons_succ, List.set_cons_zero, List.set_cons_succ, Option.bind_some, Option.some.injEq, Option.isSome_some, exists_eq_left, exists_eq_left', exists_eq_right, exists_eq_right', exists_and_left, exists_and_right, exists_const, and_assoc, and_true, true_and, Bool.not_true, Bool.not_false, reduceCtorEq, Option.map_some, D.obj.injEq, D.int.injEq, D.bl.injEq, D.lst.injEq, D.tup.injEq, D.str.injEq, Cell.fz.injEq, Cell.ow.injEq, Cell.os.injEq, List.cons.injEq, bIf_t, bIf_f, if_true, if_false, ite_true, ite_false, Bool.false_eq_true, and_self, false_and, and_false, implies_true]
  have e3 : (rangeD 0 n.toNat).foldl (fun f _ => ps.foldl maskStep f) (List.replicate n.toNat 0) = masksL n.toNat ps := by
    unfold rangeD masksL
    rw [List.foldl_map]
  rw [e3]
  exact h
theorem FirstCyc.fmt {n : Int} {ps : List Pr} (s : Sound n ps) (h24 : n ≤ 24) {c : List Int} (h : Round ps c) (m : ∀ c', Round ps c' → Before c c') : fmtD (iD c) = true := by
  have h1 := h.small s fun c' hc => (m c' hc).le
  have h2 := h.mem s
  unfold fmtD iD
  simp only [asInts_map]
  simp only [Bool.and_eq_true, decide_eq_true_eq, List.all_eq_true]
  exact ⟨by omega, fun x hx => by have := h2 x hx; omega⟩
theorem law_Todo___init__ (a : Ad) (x : Addr) : ∀ args q ex, di_Todo a args q ex → t_Todo___init__ a (startI x a.Todo 4 args) { nx := fun ρ => ∃ fs, ρ[0]? = some (.ob x a.Todo fs) ∧ q fs, rt := fun _ _ => False } ex := by
  rintro args q ex ⟨m, nd, rfl, hk, ho, h⟩
  unfold t_Todo___init__
  simp only [sSeq, sIf, sRet, sRetN, sNx, sBk, sCt, sSet, sDrop, sAug, sAsg, sPar, sRaise, sSetF, cOf, cLst, cCb, cOp, dOf, dTest, dOp, dUn, dChain, dNot, dNotV, dAnd, dOr, dAndV, dOrV, dIf, dTru, dVar, dC, dCons, dNil, dTup, dLst, dCall, dCb, dIsT, dFld, dProp, dMake, dMethO, dMut, dCut, dTupR, dHeard, dnC, hSl, hOf, hNil, hCons, oSome, oNone, iSeq, iRng1D, iRng2D, gNm, gTp, gC0, gN0, gSto, dYes, kI0, kI, kU, kAdd, kMul, kEq, kNe, kLt, kIs, kIn, kInS, kIx, kLen, kList, kTuple, kInt, kRep, kAppend, kPopAt, kSAdd, kTru_bl, kTru_int, kTru_non, kTru_lst, kTru_tup, kTru_dic, isCell, peek, res, ress, cellD, startC, seqD, List.map_cons, List.map_nil, List.length_cons, List.length_nil, List.cons_append, List.nil_append, List.append_nil, List.replicate_succ, List.replicate_zero, Nat.reduceSub, Nat.reduceAdd, List.getElem?_cons_zero, List.getElem?_cons_succ, List.set_cons_zero, List.set_cons_succ, Option.bind_some, Option.some.injEq, Option.isSome_some, exists_eq_left, exists_eq_left', exists_eq_right, exists_eq_right', exists_and_left, exists_and_right, exists_const, and_assoc, and_true, true_and, Bool.not_true, Bool.not_false, reduceCtorEq, Option.map_some, D.obj.injEq, D.int.injEq, D.bl.injEq, D.lst.injEq, D.tup.injEq, D.str.injEq, Cell.fz.injEq, Cell.ow.injEq, Cell.os.injEq, List.cons.injEq, bIf_t, bIf_f, if_true, if_false, ite_true, ite_false, Bool.false_eq_true, and_self, false_and, and_false, implies_true, startI, ds_check, ds_is_number, ds_are_needs]
  refine ⟨hk, by decide, ?_⟩
  rcases h with ⟨h1, h⟩ | ⟨n, rfl, h0, h24, h⟩
  · rw [h1]
    exact h
  · have hn : numD (.int n) 0 24 = true := by simp [numD, h0, h24]
    rw [hn, if_pos rfl]
    refine ⟨n, rfl, ho, by decide, ?_⟩
    rcases h with ⟨h1, h⟩ | ⟨ps, h1, hq, hx⟩
    · rw [h1]
      exact h
    · rw [h1]
      obtain ⟨rfl, hs⟩ := needsD_some h1
      refine ⟨n, ps, rfl, hs, h0, h24, fun c hc => ?_⟩
      rcases hc with ⟨rfl, no⟩ | ⟨hr, hm⟩
      · simp only [sSeq, sIf, sRet, sRetN, sNx, sBk, sCt, sSet, sDrop, sAug, sAsg, sPar, sRaise, sSetF, cOf, cLst, cCb, cOp, dOf, dTest, dOp, dUn, dChain, dNot, dNotV, dAnd, dOr, dAndV, dOrV, dIf, dTru, dVar, dC, dCons, dNil, dTup, dLst, dCall, dCb, dIsT, dFld, dProp, dMake, dMethO, dMut, dCut, dTupR, dHeard, dnC, hSl, hOf, hNil, hCons, oSome, oNone, iSeq, iRng1D, iRng2D, gNm, gTp, gC0, gN0, gSto, dYes, kI0, kI, kU, kAdd, kMul, kEq, kNe, kLt, kIs, kIn, kInS, kIx, kLen, kList, kTuple, kInt, kRep, kAppend, kPopAt, kSAdd, kTru_bl, kTru_int, kTru_non, kTru_lst, kTru_tup, kTru_dic, isCell, peek, res, ress, cellD, startC, seqD, List.map_cons, List.map_nil, List.length_cons, List.length_nil, List.cons_append, List.nil_append, List.append_nil, List.replicate_succ, List.replicate_zero, Nat.reduceSub, Nat.reduceAdd, List.getElem?_cons_zero, List.getElem?_cons_succ, List.set_cons_zero, List.set_cons_succ, Option.bind_some, Option.some.injEq, Option.isSome_some, exists_eq_left, exists_eq_left', exists_eq_right, exists_eq_right', exists_and_left, exists_and_right, exists_const, and_assoc, and_true, true_and, Bool.not_true, Bool.not_false, reduceCtorEq, Option.map_some, D.obj.injEq, D.int.injEq, D.bl.injEq, D.lst.injEq, D.tup.injEq, D.str.injEq, Cell.fz.injEq, Cell.ow.injEq, Cell.os.injEq, List.cons.injEq, bIf_t, bIf_f, if_true, if_false, ite_true, ite_false, Bool.false_eq_true, and_self, false_and, and_false, implies_true, iD, Cell.ob.injEq, putD]
        have n1 : ¬ ("_many" : Str) = "_needs" := by decide
        have n2 : ¬ ("_many" : Str) = "_ahead" := by decide
        have n3 : ¬ ("_needs" : Str) = "_ahead" := by decide
        have n4 : ¬ ("_many" : Str) = "_things" := by decide
        have n5 : ¬ ("_needs" : Str) = "_things" := by decide
        have n6 : ¬ ("_ahead" : Str) = "_things" := by decide
        simp only [n1, n2, n3, n4, n5, n6, if_false, putD, List.length_cons, List.length_nil]
        refine ⟨by decide, by decide, by rfl, ?_⟩
        refine ⟨_, n, ps, rfl, by rfl, by rfl, hs, h0, h24, okD_iD 59 _, by decide, ?_, ?_⟩
        · refine ⟨by decide, by decide, by omega, by omega, by omega⟩
        · trace_state
          refine ⟨by decide, ?_⟩
          exact hq no
      · have ne := hr.ne
        have hf := FirstCyc.fmt hs h24 hr hm
        have he : (c.map D.int).isEmpty = false := by cases c with
          | nil => exact absurd rfl ne
          | cons _ _ => rfl
        have hxx := hx c hr hm
        unfold iD at hf hxx
        simp only [iD, he, sSeq, sIf, sRet, sRetN, sNx, sBk, sCt, sSet, sDrop, sAug, sAsg, sPar, sRaise, sSetF, cOf, cLst, cCb, cOp, dOf, dTest, dOp, dUn, dChain, dNot, dNotV, dAnd, dOr, dAndV, dOrV, dIf, dTru, dVar, dC, dCons, dNil, dTup, dLst, dCall, dCb, dIsT, dFld, dProp, dMake, dMethO, dMut, dCut, dTupR, dHeard, dnC, hSl, hOf, hNil, hCons, oSome, oNone, iSeq, iRng1D, iRng2D, gNm, gTp, gC0, gN0, gSto, dYes, kI0, kI, kU, kAdd, kMul, kEq, kNe, kLt, kIs, kIn, kInS, kIx, kLen, kList, kTuple, kInt, kRep, kAppend, kPopAt, kSAdd, kTru_bl, kTru_int, kTru_non, kTru_lst, kTru_tup, kTru_dic, isCell, peek, res, ress, cellD, startC, seqD, List.map_cons, List.map_nil, List.length_cons, List.length_nil, List.cons_append, List.nil_append, List.append_nil, List.replicate_succ, List.replicate_zero, Nat.reduceSub, Nat.reduceAdd, List.getElem?_cons_zero, List.getElem?_cons_succ, List.set_cons_zero, List.set_cons_succ, Option.bind_some, Option.some.injEq, Option.isSome_some, exists_eq_left, exists_eq_left', exists_eq_right, exists_eq_right', exists_and_left, exists_and_right, exists_const, and_assoc, and_true, true_and, Bool.not_true, Bool.not_false, reduceCtorEq, Option.map_some, D.obj.injEq, D.int.injEq, D.bl.injEq, D.lst.injEq, D.tup.injEq, D.str.injEq, Cell.fz.injEq, Cell.ow.injEq, Cell.os.injEq, List.cons.injEq, bIf_t, bIf_f, if_true, if_false, ite_true, ite_false, Bool.false_eq_true, and_self, false_and, and_false, implies_true]
        exact ⟨hf, hxx⟩
end D7
namespace D7
open PySem PySem.Spec PyProof.Rows L2
def rgI (lo : Int) (n : Nat) : List Int := (List.range n).map fun (k : Nat) => lo + (k : Int)
theorem rangeD_eq (lo : Int) (n : Nat) : rangeD lo n = (rgI lo n).map .int := by unfold rangeD rgI; rw [List.map_map]; rfl
theorem rgI_mem {lo : Int} {n : Nat} {x : Int} (h : x ∈ rgI lo n) : lo ≤ x ∧ x < lo + n := by
  obtain ⟨k, hk, rfl⟩ := List.mem_map.mp h
  have := List.mem_range.mp hk
  omega
theorem mem_rgI {lo : Int} {n : Nat} {x : Int} (h : lo ≤ x) (h2 : x < lo + n) : x ∈ rgI lo n := List.mem_map.mpr ⟨(x - lo).toNat, List.mem_range.mpr (by omega), by omega⟩
theorem rgI_sorted (lo : Int) (n : Nat) : (rgI lo n).Pairwise (· < ·) := by
  unfold rgI
  refine List.pairwise_map.mpr ?_
  refine List.Pairwise.imp ?_ List.pairwise_lt_range
  intro a b h
  omega
theorem rgI_length (lo : Int) (n : Nat) : (rgI lo n).length = n := by unfold rgI; simp
theorem chainB_snoc : ∀ {ps : List Pr} {p : Pr}, chainB ps = true → (∀ q ∈ ps, ltP q p = true) → chainB (ps ++ [p]) = true
  | [], _, _, _ => rfl
  | [q], p, _, h => by
    show (ltP q p && chainB [p]) = true
    rw [h q List.mem_cons_self]; rfl
  | q :: r :: ps, p, hc, h => by
    have hc2 : ltP q r = true ∧ chainB (r :: ps) = true := by simpa [chainB] using hc
    have ih := chainB_snoc (ps := r :: ps) (p := p) hc2.2 fun z hz => h z (List.mem_cons_of_mem _ hz)
    show (ltP q r && chainB (r :: ps ++ [p])) = true
    rw [hc2.1, ih]; rfl
theorem ltP_fst {p q : Pr} (h : p.1 < q.1) : ltP p q = true := by
  unfold ltP HT.lexLt
  rw [if_neg (by omega)]
  exact decide_eq_true h
theorem ltP_snd {p q : Pr} (h : p.1 = q.1) (k : p.2 < q.2) : ltP p q = true := by
  unfold ltP HT.lexLt HT.lexLt
  rw [if_pos h, if_neg (by omega)]
  exact decide_eq_true k
theorem lc_pairs {a : Ad} {r m s f : Cell} {one : Int} {kk : List D → List Cell → Prop} : ∀ (ks : List Int) (acc : List D) (z : Cell), acc.length + ks.length ≤ 100 →
    (∀ z, kk (acc ++ (ks.filter fun k => k != one).map .int) [r, m, s, f, .fz (.int one), z]) →
    lcW (gNm 5) (t__law_pairs_i1 a) (t__law_pairs_e1 a) [5] kk (ks.map .int) acc [r, m, s, f, .fz (.int one), z]
  | [], acc, z, _, h => by simpa [lcW] using h z
  | k :: ks, acc, z, hl, h => by
    have hl2 : acc.length + (ks.length + 1) ≤ 100 := by simpa using hl
    have ih1 := lc_pairs (a := a) (r := r) (m := m) (s := s) (f := f) (one := one) (kk := kk) ks (acc ++ [.int k]) .off (by simp; omega)
    have ih2 := lc_pairs (a := a) (r := r) (m := m) (s := s) (f := f) (one := one) (kk := kk) ks acc .off (by omega)
    show gNm 5 _ _ _ _
    have sl := sizeLine_eq
    generalize hF : lcW (gNm 5) (t__law_pairs_i1 a) (t__law_pairs_e1 a) [5] kk (ks.map .int) = F at ih1 ih2 ⊢
    unfold t__law_pairs_i1 t__law_pairs_e1
    simp only [sSeq, sIf, sRet, sRetN, sNx, sBk, sCt, sSet, sDrop, sAug, sAsg, sPar, sRaise, sSetF, cOf, cLst, cCb, cOp, dOf, dTest, dOp, dUn, dChain, dNot, dNotV, dAnd, dOr, dAndV, dOrV, dIf, dTru, dVar, dC, dCons, dNil, dTup, dLst, dCall, dCb, dIsT, dFld, dProp, dMake, dMethO, dMut, dCut, dTupR, dHeard, dnC, hSl, hOf, hNil, hCons, oSome, oNone, iSeq, iRng1D, iRng2D, gNm, gTp, gC0, gN0, gSto, dYes, kI0, kI, kU, kAdd, kMul, kEq, kNe, kLt, kIs, kIn, kInS, kIx, kLen, kList, kTuple, kInt, kRep, kAppend, kPopAt, kSAdd, kTru_bl, kTru_int, kTru_non, kTru_lst, kTru_tup, kTru_dic, isCell, peek, res, ress, cellD, startC, seqD, List.map_cons, List.map_nil, List.length_cons, List.length_nil, List.cons_append, List.nil_append, List.append_nil, List.replicate_succ, List.replicate_zero, Nat.reduceSub, Nat.reduceAdd, List.getElem?_cons_zero, List.getElem?_cons_succ, List.set_cons_zero, List.set_cons_succ, Option.bind_some, Option.some.injEq, Option.isSome_some, exists_eq_left, exists_eq_left', exists_eq_right, exists_eq_right', exists_and_left, exists_and_right, exists_const, and_assoc, and_true, true_and, Bool.not_true, Bool.not_false, reduceCtorEq, Option.map_some, D.obj.injEq, D.int.injEq, D.bl.injEq, D.lst.injEq, D.tup.injEq, D.str.injEq, Cell.fz.injEq, Cell.ow.injEq, Cell.os.injEq, List.cons.injEq, bIf_t, bIf_f, if_true, if_false, ite_true, ite_false, Bool.false_eq_true, and_self, false_and, and_false, implies_true, wipeC, okD, eqD]
    refine bIf_of (fun e1 => ?_) fun e1 => ?_
    · have e : k ≠ one := by simpa using e1
      have e2 : (k :: ks).filter (fun k => k != one) = k :: ks.filter fun k => k != one := by simp [e]
      rw [e2] at h
      exact ⟨by omega, ih1 fun z => by simpa using h z⟩
    · have e : k = one := by simpa using e1
      have e2 : (k :: ks).filter (fun k => k != one) = ks.filter fun k => k != one := by simp [e]
      rw [e2] at h
      exact ih2 h
theorem loop_pairs1 {a : Ad} {n one sh : Int} {k : DK} {ex : XD} {m : Cell} (h0 : 0 < sh) (h1 : sh < 100) (h24 : n ≤ 24) : ∀ (os : List Int) (ps : List Pr) (z : Cell), os.Pairwise (· < ·) → (∀ o ∈ os, okP n (one, o)) → Sound n ps → (∀ p ∈ ps, ∀ o ∈ os, ltP p (one, o) = true) → ps.length + os.length ≤ 2000 →
    (∀ (qs : List Pr) z, Sound n qs → qs.length ≤ ps.length + os.length → (∀ p ∈ qs, p ∈ ps ∨ p.1 = one) → k.nx [.fz .row, m, .fz (.int sh), .ow (qs.map pD), .fz (.int one), z]) →
    forW (gNm 5) (t__law_pairs_b1 a) k ex (os.map .int) [.fz .row, m, .fz (.int sh), .ow (ps.map pD), .fz (.int one), z]
  | [], ps, z, _, _, s, _, _, h => h ps z s (by omega) fun p hp => .inl hp
  | o :: os, ps, z, pw, ok, s, lt, hl, h => by
    have hl2 : ps.length + (os.length + 1) ≤ 2000 := by simpa using hl
    obtain ⟨pw1, pw2⟩ := List.pairwise_cons.mp pw
    have ih := fun (qs : List Pr) (hq : qs = ps ∨ qs = ps ++ [(one, o)]) => loop_pairs1 (a := a) (k := k) (ex := ex) (m := m) h0 h1 h24 os qs (.fz (.int o)) pw2 (fun x hx => ok x (List.mem_cons_of_mem _ hx))
      (by rcases hq with rfl | rfl
          · exact s
          · exact ⟨fun p hp => by
              rcases List.mem_append.mp hp with hp | hp
              · exact s.ok p hp
              · cases List.mem_singleton.mp hp
                exact ok o List.mem_cons_self, chainB_snoc s.ch fun q hq => lt q hq o List.mem_cons_self⟩)
      (fun p hp x hx => by
        rcases hq with rfl | rfl
        · exact lt p hp x (List.mem_cons_of_mem _ hx)
        · rcases List.mem_append.mp hp with hp | hp
          · exact lt p hp x (List.mem_cons_of_mem _ hx)
          · cases List.mem_singleton.mp hp
            exact ltP_snd rfl (pw1 x hx))
      (by rcases hq with rfl | rfl
          · omega
          · rw [List.length_append, List.length_singleton]; omega)
      (fun rs z hs hl3 hm => h rs z hs (by
          have : qs.length ≤ ps.length + 1 := by rcases hq with rfl | rfl <;> simp
          rw [List.length_cons]; omega) fun p hp => by
        rcases hm p hp with hm | hm
        · rcases hq with rfl | rfl
          · exact .inl hm
          · rcases List.mem_append.mp hm with hm | hm
            · exact .inl hm
            · cases List.mem_singleton.mp hm
              exact .inr rfl
        · exact .inr hm)
    show gNm 5 _ _ _ _
    have sl := sizeLine_eq
    generalize hF : forW (gNm 5) (t__law_pairs_b1 a) k ex (os.map .int) = F at ih ⊢
    unfold t__law_pairs_b1
    simp only [sSeq, sIf, sRet, sRetN, sNx, sBk, sCt, sSet, sDrop, sAug, sAsg, sPar, sRaise, sSetF, cOf, cLst, cCb, cOp, dOf, dTest, dOp, dUn, dChain, dNot, dNotV, dAnd, dOr, dAndV, dOrV, dIf, dTru, dVar, dC, dCons, dNil, dTup, dLst, dCall, dCb, dIsT, dFld, dProp, dMake, dMethO, dMut, dCut, dTupR, dHeard, dnC, hSl, hOf, hNil, hCons, oSome, oNone, iSeq, iRng1D, iRng2D, gNm, gTp, gC0, gN0, gSto, dYes, kI0, kI, kU, kAdd, kMul, kEq, kNe, kLt, kIs, kIn, kInS, kIx, kLen, kList, kTuple, kInt, kRep, kAppend, kPopAt, kSAdd, kTru_bl, kTru_int, kTru_non, kTru_lst, kTru_tup, kTru_dic, isCell, peek, res, ress, cellD, startC, seqD, List.map_cons, List.map_nil, List.length_cons, List.length_nil, List.cons_append, List.nil_append, List.append_nil, List.replicate_succ, List.replicate_zero, Nat.reduceSub, Nat.reduceAdd, List.getElem?_cons_zero, List.getElem?_cons_succ, List.set_cons_zero, List.set_cons_succ, Option.bind_some, Option.some.injEq, Option.isSome_some, exists_eq_left, exists_eq_left', exists_eq_right, exists_eq_right', exists_and_left, exists_and_right, exists_const, and_assoc, and_true, true_and, Bool.not_true, Bool.not_false, reduceCtorEq, Option.map_some, D.obj.injEq, D.int.injEq, D.bl.injEq, D.lst.injEq, D.tup.injEq, D.str.injEq, Cell.fz.injEq, Cell.ow.injEq, Cell.os.injEq, List.cons.injEq, bIf_t, bIf_f, if_true, if_false, ite_true, ite_false, Bool.false_eq_true, and_self, false_and, and_false, implies_true, ds__law_taken, okD, eqD, List.length_map]
    refine ⟨h0, by omega, fun r hr hr2 => ?_⟩
    refine bIf_of (fun e1 => ?_) fun e1 => ?_
    · refine ⟨by decide, by decide, by decide, by omega, ?_⟩
      have := ih _ (.inr rfl)
      simpa [pD] using this
    · exact ih ps (.inl rfl)
theorem loop_pairs2 {a : Ad} {n sh : Int} {k : DK} {ex : XD} (h0 : 0 < sh) (h1 : sh < 100) (hn : 0 ≤ n) (h24 : n ≤ 24) : ∀ (os : List Int) (ps : List Pr) (y z : Cell), os.Pairwise (· < ·) → (∀ o ∈ os, 0 ≤ o ∧ o < n) → Sound n ps → (∀ p ∈ ps, ∀ o ∈ os, p.1 < o) → ps.length + 24 * os.length ≤ 1000 →
    (∀ (qs : List Pr) y z, Sound n qs → k.nx [.fz .row, .fz (.int n), .fz (.int sh), .ow (qs.map pD), y, z]) →
    forW (gNm 4) (t__law_pairs_b2 a) k ex (os.map .int) [.fz .row, .fz (.int n), .fz (.int sh), .ow (ps.map pD), y, z]
  | [], ps, y, z, _, _, s, _, _, h => h ps y z s
  | o :: os, ps, y, z, pw, ok, s, lt, hl, h => by
    have hl2 : ps.length + 24 * (os.length + 1) ≤ 1000 := by simpa using hl
    obtain ⟨pw1, pw2⟩ := List.pairwise_cons.mp pw
    have oo := ok o List.mem_cons_self
    have ih := fun (qs : List Pr) z (hs : Sound n qs) (hl3 : qs.length ≤ ps.length + 24) (hm : ∀ p ∈ qs, p ∈ ps ∨ p.1 = o) => loop_pairs2 (a := a) (k := k) (ex := ex) h0 h1 hn h24 os qs (.fz (.int o)) z pw2 (fun x hx => ok x (List.mem_cons_of_mem _ hx)) hs
      (fun p hp x hx => by
        rcases hm p hp with hm | hm
        · exact lt p hm x (List.mem_cons_of_mem _ hx)
        · rw [hm]; exact pw1 x hx) (by omega) h
    show gNm 4 _ _ _ _
    generalize hF : forW (gNm 4) (t__law_pairs_b2 a) k ex (os.map .int) = F at ih ⊢
    have e2 : (2 : Int) ^ 62 = 4611686018427387904 := by decide
    unfold t__law_pairs_b2
    simp only [sSeq, sIf, sRet, sRetN, sNx, sBk, sCt, sSet, sDrop, sAug, sAsg, sPar, sRaise, sSetF, cOf, cLst, cCb, cOp, dOf, dTest, dOp, dUn, dChain, dNot, dNotV, dAnd, dOr, dAndV, dOrV, dIf, dTru, dVar, dC, dCons, dNil, dTup, dLst, dCall, dCb, dIsT, dFld, dProp, dMake, dMethO, dMut, dCut, dTupR, dHeard, dnC, hSl, hOf, hNil, hCons, oSome, oNone, iSeq, iRng1D, iRng2D, gNm, gTp, gC0, gN0, gSto, dYes, kI0, kI, kU, kAdd, kMul, kEq, kNe, kLt, kIs, kIn, kInS, kIx, kLen, kList, kTuple, kInt, kRep, kAppend, kPopAt, kSAdd, kTru_bl, kTru_int, kTru_non, kTru_lst, kTru_tup, kTru_dic, isCell, peek, res, ress, cellD, startC, seqD, List.map_cons, List.map_nil, List.length_cons, List.length_nil, List.cons_append, List.nil_append, List.append_nil, List.replicate_succ, List.replicate_zero, Nat.reduceSub, Nat.reduceAdd, List.getElem?_cons_zero, List.getElem?_cons_succ, List.set_cons_zero, List.set_cons_succ, Option.bind_some, Option.some.injEq, Option.isSome_some, exists_eq_left, exists_eq_left', exists_eq_right, exists_eq_right', exists_and_left, exists_and_right, exists_const, and_assoc, and_true, true_and, Bool.not_true, Bool.not_false, reduceCtorEq, Option.map_some, D.obj.injEq, D.int.injEq, D.bl.injEq, D.lst.injEq, D.tup.injEq, D.str.injEq, Cell.fz.injEq, Cell.ow.injEq, Cell.os.injEq, List.cons.injEq, bIf_t, bIf_f, if_true, if_false, ite_true, ite_false, Bool.false_eq_true, and_self, false_and, and_false, implies_true, sFor, cLc, rangeD_eq, wipeC]
    refine ⟨by omega, by omega, ?_⟩
    refine lc_pairs _ [] .off (by simp [rgI_length]; omega) fun z2 => ?_
    simp only [sSeq, sIf, sRet, sRetN, sNx, sBk, sCt, sSet, sDrop, sAug, sAsg, sPar, sRaise, sSetF, cOf, cLst, cCb, cOp, dOf, dTest, dOp, dUn, dChain, dNot, dNotV, dAnd, dOr, dAndV, dOrV, dIf, dTru, dVar, dC, dCons, dNil, dTup, dLst, dCall, dCb, dIsT, dFld, dProp, dMake, dMethO, dMut, dCut, dTupR, dHeard, dnC, hSl, hOf, hNil, hCons, oSome, oNone, iSeq, iRng1D, iRng2D, gNm, gTp, gC0, gN0, gSto, dYes, kI0, kI, kU, kAdd, kMul, kEq, kNe, kLt, kIs, kIn, kInS, kIx, kLen, kList, kTuple, kInt, kRep, kAppend, kPopAt, kSAdd, kTru_bl, kTru_int, kTru_non, kTru_lst, kTru_tup, kTru_dic, isCell, peek, res, ress, cellD, startC, seqD, List.map_cons, List.map_nil, List.length_cons, List.length_nil, List.cons_append, List.nil_append, List.append_nil, List.replicate_succ, List.replicate_zero, Nat.reduceSub, Nat.reduceAdd, List.getElem?_cons_zero, List.getElem?_cons_succ, List.set_cons_zero, List.set_cons_succ, Option.bind_some, Option.some.injEq, Option.isSome_some, exists_eq_left, exists_eq_left', exists_eq_right, exists_eq_right', exists_and_left, exists_and_right, exists_const, and_assoc, and_true, true_and, Bool.not_true, Bool.not_false, reduceCtorEq, Option.map_some, D.obj.injEq, D.int.injEq, D.bl.injEq, D.lst.injEq, D.tup.injEq, D.str.injEq, Cell.fz.injEq, Cell.ow.injEq, Cell.os.injEq, List.cons.injEq, bIf_t, bIf_f, if_true, if_false, ite_true, ite_false, Bool.false_eq_true, and_self, false_and, and_false, implies_true, unwipe, keepF]
    have hlen : ((rgI 0 n.toNat).filter fun k => k != o).length ≤ 24 := Nat.le_trans (List.length_filter_le ..) (by rw [rgI_length]; omega)
    refine loop_pairs1 h0 h1 h24 _ ps _ ((rgI_sorted 0 n.toNat).filter _) (fun x hx => ?_) s (fun p hp x hx => ltP_fst (lt p hp o List.mem_cons_self)) (by omega) fun qs z hs hl3 hm => ih qs z hs (by omega) hm
    obtain ⟨h3, h4⟩ := List.mem_filter.mp hx
    have := rgI_mem h3
    have ne : x ≠ o := by simpa using h4
    exact ⟨fun e => ne e.symm, oo.1, oo.2, by omega, by omega⟩
theorem law__law_pairs (a : Ad) : ∀ args q ex, ds__law_pairs a args q ex → t__law_pairs a (startC 6 args) { nx := fun _ => q .non, rt := fun d _ => q d } ex := by
  rintro args q ex ⟨n, rfl, h0, h24, h⟩
  unfold t__law_pairs
  have e2 : (2 : Int) ^ 62 = 4611686018427387904 := by decide
  simp only [sSeq, sIf, sRet, sRetN, sNx, sBk, sCt, sSet, sDrop, sAug, sAsg, sPar, sRaise, sSetF, cOf, cLst, cCb, cOp, dOf, dTest, dOp, dUn, dChain, dNot, dNotV, dAnd, dOr, dAndV, dOrV, dIf, dTru, dVar, dC, dCons, dNil, dTup, dLst, dCall, dCb, dIsT, dFld, dProp, dMake, dMethO, dMut, dCut, dTupR, dHeard, dnC, hSl, hOf, hNil, hCons, oSome, oNone, iSeq, iRng1D, iRng2D, gNm, gTp, gC0, gN0, gSto, dYes, kI0, kI, kU, kAdd, kMul, kEq, kNe, kLt, kIs, kIn, kInS, kIx, kLen, kList, kTuple, kInt, kRep, kAppend, kPopAt, kSAdd, kTru_bl, kTru_int, kTru_non, kTru_lst, kTru_tup, kTru_dic, isCell, peek, res, ress, cellD, startC, seqD, List.map_cons, List.map_nil, List.length_cons, List.length_nil, List.cons_append, List.nil_append, List.append_nil, List.replicate_succ, List.replicate_zero, Nat.reduceSub, Nat.reduceAdd, List.getElem?_cons_zero, List.getElem?_cons_succ, List.set_cons_zero, List.set_cons_succ, Option.bind_some, Option.some.injEq, Option.isSome_some, exists_eq_left, exists_eq_left', exists_eq_right, exists_eq_right', exists_and_left, exists_and_right, exists_const, and_assoc, and_true, true_and, Bool.not_true, Bool.not_false, reduceCtorEq, Option.map_some, D.obj.injEq, D.int.injEq, D.bl.injEq, D.lst.injEq, D.tup.injEq, D.str.injEq, Cell.fz.injEq, Cell.ow.injEq, Cell.os.injEq, List.cons.injEq, bIf_t, bIf_f, if_true, if_false, ite_true, ite_false, Bool.false_eq_true, and_self, false_and, and_false, implies_true, ds__law_taken, sFor, rangeD_eq]
  refine ⟨by decide, by decide, fun r hr hr2 => ?_⟩
  refine ⟨by decide, by omega, by omega, ?_⟩
  refine loop_pairs2 (by omega) (by omega) h0 h24 _ [] _ _ (rgI_sorted 0 n.toNat) (fun x hx => ?_) ⟨nofun, rfl⟩ nofun (by rw [rgI_length]; simp; omega) fun qs y z hs => ?_
  · have := rgI_mem hx
    omega
  · simp only [sSeq, sIf, sRet, sRetN, sNx, sBk, sCt, sSet, sDrop, sAug, sAsg, sPar, sRaise, sSetF, cOf, cLst, cCb, cOp, dOf, dTest, dOp, dUn, dChain, dNot, dNotV, dAnd, dOr, dAndV, dOrV, dIf, dTru, dVar, dC, dCons, dNil, dTup, dLst, dCall, dCb, dIsT, dFld, dProp, dMake, dMethO, dMut, dCut, dTupR, dHeard, dnC, hSl, hOf, hNil, hCons, oSome, oNone, iSeq, iRng1D, iRng2D, gNm, gTp, gC0, gN0, gSto, dYes, kI0, kI, kU, kAdd, kMul, kEq, kNe, kLt, kIs, kIn, kInS, kIx, kLen, kList, kTuple, kInt, kRep, kAppend, kPopAt, kSAdd, kTru_bl, kTru_int, kTru_non, kTru_lst, kTru_tup, kTru_dic, isCell, peek, res, ress, cellD, startC, seqD, List.map_cons, List.map_nil, List.length_cons, List.length_nil, List.cons_append, List.nil_append, List.append_nil, List.replicate_succ, List.replicate_zero, Nat.reduceSub, Nat.reduceAdd, List.getElem?_cons_zero, List.getElem?_cons_succ, List.set_cons_zero, List.set_cons_succ, Option.bind_some, Option.some.injEq, Option.isSome_some, exists_eq_left, exists_eq_left', exists_eq_right, exists_eq_right', exists_and_left, exists_and_right, exists_const, and_assoc, and_true, true_and, Bool.not_true, Bool.not_false, reduceCtorEq, Option.map_some, D.obj.injEq, D.int.injEq, D.bl.injEq, D.lst.injEq, D.tup.injEq, D.str.injEq, Cell.fz.injEq, Cell.ow.injEq, Cell.os.injEq, List.cons.injEq, bIf_t, bIf_f, if_true, if_false, ite_true, ite_false, Bool.false_eq_true, and_self, false_and, and_false, implies_true]
    exact h qs hs
end D7
namespace D7
open PySem PySem.Spec PyProof.Rows L2
theorem map_erase {α β : Type} (f : α → β) : ∀ (l : List α) (k : Nat), (l.map f).eraseIdx k = (l.eraseIdx k).map f
  | [], _ => rfl
  | _ :: _, 0 => rfl
  | x :: l, k + 1 => by simp [map_erase f l k]
theorem perm_pop {f l : List Int} {k : Nat} {x : Int} (h : l[k]? = some x) : ((f ++ [x]) ++ l.eraseIdx k).Perm (f ++ l) := by
  rw [List.append_assoc]
  refine List.Perm.append_left f ?_
  obtain ⟨lt, rfl⟩ := List.getElem?_eq_some_iff.mp h
  rw [List.eraseIdx_eq_take_drop_succ]
  have e : l = l.take k ++ l[k] :: l.drop (k + 1) := by rw [← List.drop_eq_getElem_cons lt, List.take_append_drop]
  exact (List.perm_middle (a := l[k]) (l₁ := l.take k) (l₂ := l.drop (k + 1))).symm.trans (List.Perm.of_eq e.symm)
theorem law__law_shuffled (a : Ad) : ∀ args q ex, ds__law_shuffled a args q ex → t__law_shuffled a (startC 4 args) { nx := fun _ => q .non, rt := fun d _ => q d } ex := by
  rintro args q ex ⟨ns, rfl, hl, h⟩
  unfold t__law_shuffled
  simp only [sSeq, sIf, sRet, sRetN, sNx, sBk, sCt, sSet, sDrop, sAug, sAsg, sPar, sRaise, sSetF, cOf, cLst, cCb, cOp, dOf, dTest, dOp, dUn, dChain, dNot, dNotV, dAnd, dOr, dAndV, dOrV, dIf, dTru, dVar, dC, dCons, dNil, dTup, dLst, dCall, dCb, dIsT, dFld, dProp, dMake, dMethO, dMut, dCut, dTupR, dHeard, dnC, hSl, hOf, hNil, hCons, oSome, oNone, iSeq, iRng1D, iRng2D, gNm, gTp, gC0, gN0, gSto, dYes, kI0, kI, kU, kAdd, kMul, kEq, kNe, kLt, kIs, kIn, kInS, kIx, kLen, kList, kTuple, kInt, kRep, kAppend, kPopAt, kSAdd, kTru_bl, kTru_int, kTru_non, kTru_lst, kTru_tup, kTru_dic, isCell, peek, res, ress, cellD, startC, seqD, List.map_cons, List.map_nil, List.length_cons, List.length_nil, List.cons_append, List.nil_append, List.append_nil, List.replicate_succ, List.replicate_zero, Nat.reduceSub, Nat.reduceAdd, List.getElem?_cons_zero, List.getElem?_cons_succ, List.set_cons_zero, List.set_cons_succ, Option.bind_some, Option.some.injEq, Option.isSome_some, exists_eq_left, exists_eq_left', exists_eq_right, exists_eq_right', exists_and_left, exists_and_right, exists_const, and_assoc, and_true, true_and, Bool.not_true, Bool.not_false, reduceCtorEq, Option.map_some, D.obj.injEq, D.int.injEq, D.bl.injEq, D.lst.injEq, D.tup.injEq, D.str.injEq, Cell.fz.injEq, Cell.ow.injEq, Cell.os.injEq, List.cons.injEq, bIf_t, bIf_f, if_true, if_false, ite_true, ite_false, Bool.false_eq_true, and_self, false_and, and_false, implies_true, sWhile]
  refine ⟨Nat.zero_le _, fun m ρ => ∃ l f : List Int, ρ = [Cell.fz .row, Cell.fz (.lst (ns.map .int)), Cell.ow (l.map .int), Cell.ow (f.map .int)] ∧ m = l.length ∧ (f ++ l).Perm ns, ⟨_, ns, [], rfl, rfl, List.Perm.refl _⟩, ?_⟩
  rintro m ρ ⟨l, f, rfl, rfl, hp⟩
  have hln : f.length + l.length = ns.length := by rw [← List.length_append]; exact hp.length_eq
  unfold t__law_shuffled_w1 t__law_shuffled_b1
  have sl := sizeLine_eq
  simp only [sSeq, sIf, sRet, sRetN, sNx, sBk, sCt, sSet, sDrop, sAug, sAsg, sPar, sRaise, sSetF, cOf, cLst, cCb, cOp, dOf, dTest, dOp, dUn, dChain, dNot, dNotV, dAnd, dOr, dAndV, dOrV, dIf, dTru, dVar, dC, dCons, dNil, dTup, dLst, dCall, dCb, dIsT, dFld, dProp, dMake, dMethO, dMut, dCut, dTupR, dHeard, dnC, hSl, hOf, hNil, hCons, oSome, oNone, iSeq, iRng1D, iRng2D, gNm, gTp, gC0, gN0, gSto, dYes, kI0, kI, kU, kAdd, kMul, kEq, kNe, kLt, kIs, kIn, kInS, kIx, kLen, kList, kTuple, kInt, kRep, kAppend, kPopAt, kSAdd, kTru_bl, kTru_int, kTru_non, kTru_lst, kTru_tup, kTru_dic, isCell, peek, res, ress, cellD, startC, seqD, List.map_cons, List.map_nil, List.length_cons, List.length_nil, List.cons_append, List.nil_append, List.append_nil, List.replicate_succ, List.replicate_zero, Nat.reduceSub, Nat.reduceAdd, List.getElem?_cons_zero, List.getElem?_cons_succ, List.set_cons_zero, List.set_cons_succ, Option.bind_some, Option.some.injEq, Option.isSome_some, exists_eq_left, exists_eq_left', exists_eq_right, exists_eq_right', exists_and_left, exists_and_right, exists_const, and_assoc, and_true, true_and, Bool.not_true, Bool.not_false, reduceCtorEq, Option.map_some, D.obj.injEq, D.int.injEq, D.bl.injEq, D.lst.injEq, D.tup.injEq, D.str.injEq, Cell.fz.injEq, Cell.ow.injEq, Cell.os.injEq, List.cons.injEq, bIf_t, bIf_f, if_true, if_false, ite_true, ite_false, Bool.false_eq_true, and_self, false_and, and_false, implies_true, ds__law_taken, List.length_map]
  refine ⟨Nat.zero_le _, ?_, by decide, ?_⟩
  · simp only [okD]; exact okDs_ints _ _
  cases l with
  | nil => 
    rw [List.append_nil] at hp
    exact h f hp
  | cons x l =>
    show _ ∧ _
    have e62 : (2 : Int) ^ 63 = 9223372036854775808 := by decide
    have e60 : (2 : Int) ^ 60 = 1152921504606846976 := by decide
    refine ⟨by decide, by decide, fun _ => ⟨by simp, by simp at hln ⊢; omega, fun r hr hr2 => ?_⟩⟩
    have lt : r.toNat < (x :: l).length := by omega
    have hs : seqIndex? r (x :: l).length = some r.toNat := by
      have h1 : ¬ r < 0 := by omega
      have h2 : r < (l.length : Int) + 1 := by simpa using hr2
      simp [seqIndex?, h1, hr, h2]
    refine ⟨by decide, by omega, by have := hr2; simp at hln this; omega, r.toNat, hs, .int (x :: l)[r.toNat], by rw [List.getElem?_map, List.getElem?_eq_getElem lt]; rfl, by decide, by simp at hln; omega, ((x :: l).eraseIdx r.toNat).length, ?_, (x :: l).eraseIdx r.toNat, ?_, f ++ [(x :: l)[r.toNat]], by simp, rfl, ?_⟩
    · rw [List.length_eraseIdx, if_pos lt]; simp
    · exact map_erase D.int _ _
    · exact (perm_pop (List.getElem?_eq_getElem lt)).trans hp
theorem lc_needs {a : Ad} {c0 c1 c2 c3 c4 c5 c6 : Cell} {kk : List D → List Cell → Prop} : ∀ (ks : List Int) (acc : List D) (z : Cell), acc.length + ks.length ≤ 100 →
    (∀ z, kk (acc ++ ks.map .int) [c0, c1, c2, c3, c4, c5, c6, z]) →
    lcW (gNm 7) (t__law_needs_i1 a) (t__law_needs_e1 a) [7] kk (ks.map .int) acc [c0, c1, c2, c3, c4, c5, c6, z]
  | [], acc, z, _, h => by simpa [lcW] using h z
  | k :: ks, acc, z, hl, h => by
    have hl2 : acc.length + (ks.length + 1) ≤ 100 := by simpa using hl
    have ih1 := lc_needs (a := a) (c0 := c0) (c1 := c1) (c2 := c2) (c3 := c3) (c4 := c4) (c5 := c5) (c6 := c6) (kk := kk) ks (acc ++ [.int k]) .off (by simp; omega) (by simpa using h)
    show gNm 7 _ _ _ _
    have sl := sizeLine_eq
    generalize hF : lcW (gNm 7) (t__law_needs_i1 a) (t__law_needs_e1 a) [7] kk (ks.map .int) = F at ih1 ⊢
    unfold t__law_needs_i1 t__law_needs_e1
    simp only [sSeq, sIf, sRet, sRetN, sNx, sBk, sCt, sSet, sDrop, sAug, sAsg, sPar, sRaise, sSetF, cOf, cLst, cCb, cOp, dOf, dTest, dOp, dUn, dChain, dNot, dNotV, dAnd, dOr, dAndV, dOrV, dIf, dTru, dVar, dC, dCons, dNil, dTup, dLst, dCall, dCb, dIsT, dFld, dProp, dMake, dMethO, dMut, dCut, dTupR, dHeard, dnC, hSl, hOf, hNil, hCons, oSome, oNone, iSeq, iRng1D, iRng2D, gNm, gTp, gC0, gN0, gSto, dYes, kI0, kI, kU, kAdd, kMul, kEq, kNe, kLt, kIs, kIn, kInS, kIx, kLen, kList, kTuple, kInt, kRep, kAppend, kPopAt, kSAdd, kTru_bl, kTru_int, kTru_non, kTru_lst, kTru_tup, kTru_dic, isCell, peek, res, ress, cellD, startC, seqD, List.map_cons, List.map_nil, List.length_cons, List.length_nil, List.cons_append, List.nil_append, List.append_nil, List.replicate_succ, List.replicate_zero, Nat.reduceSub, Nat.reduceAdd, List.getElem?_cons_zero, List.getElem?_cons_succ, List.set_cons_zero, List.set_cons_succ, Option.bind_some, Option.some.injEq, Option.isSome_some, exists_eq_left, exists_eq_left', exists_eq_right, exists_eq_right', exists_and_left, exists_and_right, exists_const, and_assoc, and_true, true_and, Bool.not_true, Bool.not_false, reduceCtorEq, Option.map_some, D.obj.injEq, D.int.injEq, D.bl.injEq, D.lst.injEq, D.tup.injEq, D.str.injEq, Cell.fz.injEq, Cell.ow.injEq, Cell.os.injEq, List.cons.injEq, bIf_t, bIf_f, if_true, if_false, ite_true, ite_false, Bool.false_eq_true, and_self, false_and, and_false, implies_true, wipeC]
    exact ⟨by omega, ih1⟩
/-- pairs of an order: the earlier ahead of the later, by ever growing places -/
def inOrd (ms : List Int) (p : Pr) : Prop := ∃ i j : Nat, i < j ∧ ms[i]? = some p.1 ∧ ms[j]? = some p.2
theorem loop_needs1 {a : Ad} {n sh : Int} {ms : List Int} {at_ : Int} {k : DK} {ex : XD} {c7 : Cell} (h0 : 0 ≤ sh) (h7 : sh < 7) (nd : ms.Nodup) (ha : 0 ≤ at_) : ∀ (os : List Int) (ps : List Pr) (z : Cell), os.Pairwise (· < ·) → (∀ o ∈ os, at_ < o ∧ o < ms.length) → ps.Nodup → (∀ p ∈ ps, inOrd ms p) →
    (∀ p ∈ ps, ∀ o ∈ os, ms[at_.toNat]? = some p.1 → ms[o.toNat]? = some p.2 → False) → ps.length + os.length ≤ 2000 →
    (∀ (qs : List Pr) z, qs.Nodup → (∀ p ∈ qs, inOrd ms p) → qs.length ≤ ps.length + os.length → (∀ p ∈ qs, p ∈ ps ∨ ms[at_.toNat]? = some p.1) → k.nx [.fz .row, .fz (.int n), .fz (.lst (ms.map .int)), .fz (.int sh), .ow (qs.map pD), .fz (.int at_), z, c7]) →
    forW (gNm 6) (t__law_needs_b1 a) k ex (os.map .int) [.fz .row, .fz (.int n), .fz (.lst (ms.map .int)), .fz (.int sh), .ow (ps.map pD), .fz (.int at_), z, c7]
  | [], ps, z, _, _, d, io, _, _, h => h ps z d io (by simp) fun p hp => .inl hp
  | o :: os, ps, z, pw, ok, d, io, nw, hl, h => by
    have hl2 : ps.length + (os.length + 1) ≤ 2000 := by simpa using hl
    obtain ⟨pw1, pw2⟩ := List.pairwise_cons.mp pw
    obtain ⟨o1, o2⟩ := ok o List.mem_cons_self
    have la : at_.toNat < ms.length := by omega
    have lo : o.toNat < ms.length := by omega
    have ga := List.getElem?_eq_getElem la
    have go := List.getElem?_eq_getElem lo
    have ih := fun (qs : List Pr) (hq : qs = ps ∨ qs = ps ++ [(ms[at_.toNat], ms[o.toNat])]) => loop_needs1 (a := a) (n := n) (k := k) (ex := ex) (c7 := c7) h0 h7 nd ha os qs (.fz (.int o)) pw2 (fun x hx => ok x (List.mem_cons_of_mem _ hx))
      (by
        rcases hq with rfl | rfl
        · exact d
        · refine List.nodup_append.mpr ⟨d, by simp, fun p hp p' hp' e => ?_⟩
          subst e
          cases List.mem_singleton.mp hp'
          exact nw _ hp o List.mem_cons_self ga go)
      (fun p hp => by
        rcases hq with rfl | rfl
        · exact io p hp
        · rcases List.mem_append.mp hp with hp | hp
          · exact io p hp
          · cases List.mem_singleton.mp hp
            exact ⟨at_.toNat, o.toNat, by omega, ga, go⟩)
      (fun p hp x hx e1 e2 => by
        rcases hq with rfl | rfl
        · exact nw p hp x (List.mem_cons_of_mem _ hx) e1 e2
        · rcases List.mem_append.mp hp with hp | hp
          · exact nw p hp x (List.mem_cons_of_mem _ hx) e1 e2
          · cases List.mem_singleton.mp hp
            have lx := (ok x (List.mem_cons_of_mem _ hx))
            have hx1 := pw1 x hx
            have lx2 : x.toNat < ms.length := by omega
            have := (List.getElem?_inj lx2 nd).mp (e2.trans go.symm)
            omega)
      (by rcases hq with rfl | rfl
          · omega
          · rw [List.length_append, List.length_singleton]; omega)
      (fun rs z hs hi hl3 hm => h rs z hs hi (by
          have : qs.length ≤ ps.length + 1 := by rcases hq with rfl | rfl <;> simp
          rw [List.length_cons]; omega) fun p hp => by
        rcases hm p hp with hm | hm
        · rcases hq with rfl | rfl
          · exact .inl hm
          · rcases List.mem_append.mp hm with hm | hm
            · exact .inl hm
            · cases List.mem_singleton.mp hm
              exact .inr ga
        · exact .inr hm)
    show gNm 6 _ _ _ _
    have sl := sizeLine_eq
    generalize hF : forW (gNm 6) (t__law_needs_b1 a) k ex (os.map .int) = F at ih ⊢
    have ea : atI (ms.map D.int) at_ = some (.int ms[at_.toNat]) := atI_nat ha (by rw [List.getElem?_map, ga]; rfl)
    have eo : atI (ms.map D.int) o = some (.int ms[o.toNat]) := atI_nat (by omega) (by rw [List.getElem?_map, go]; rfl)
    have yes := ih _ (.inr rfl)
    have no := ih _ (.inl rfl)
    rw [List.map_append, List.map_singleton] at yes
    unfold t__law_needs_b1
    simp only [sSeq, sIf, sRet, sRetN, sNx, sBk, sCt, sSet, sDrop, sAug, sAsg, sPar, sRaise, sSetF, cOf, cLst, cCb, cOp, dOf, dTest, dOp, dUn, dChain, dNot, dNotV, dAnd, dOr, dAndV, dOrV, dIf, dTru, dVar, dC, dCons, dNil, dTup, dLst, dCall, dCb, dIsT, dFld, dProp, dMake, dMethO, dMut, dCut, dTupR, dHeard, dnC, hSl, hOf, hNil, hCons, oSome, oNone, iSeq, iRng1D, iRng2D, gNm, gTp, gC0, gN0, gSto, dYes, kI0, kI, kU, kAdd, kMul, kEq, kNe, kLt, kIs, kIn, kInS, kIx, kLen, kList, kTuple, kInt, kRep, kAppend, kPopAt, kSAdd, kTru_bl, kTru_int, kTru_non, kTru_lst, kTru_tup, kTru_dic, isCell, peek, res, ress, cellD, startC, seqD, List.map_cons, List.map_nil, List.length_cons, List.length_nil, List.cons_append, List.nil_append, List.append_nil, List.replicate_succ, List.replicate_zero, Nat.reduceSub, Nat.reduceAdd, List.getElem?_cons_zero, List.getElem?_cons_succ, List.set_cons_zero, List.set_cons_succ, Option.bind_some, Option.some.injEq, Option.isSome_some, exists_eq_left, exists_eq_left', exists_eq_right, exists_eq_right', exists_and_left, exists_and_right, exists_const, and_assoc, and_true, true_and, Bool.not_true, Bool.not_false, reduceCtorEq, Option.map_some, D.obj.injEq, D.int.injEq, D.bl.injEq, D.lst.injEq, D.tup.injEq, D.str.injEq, Cell.fz.injEq, Cell.ow.injEq, Cell.os.injEq, List.cons.injEq, bIf_t, bIf_f, if_true, if_false, ite_true, ite_false, Bool.false_eq_true, and_self, false_and, and_false, implies_true, ds__law_taken, okD, eqD, List.length_map, ea, eo]
    have fin : ("list" == "list") = true ∧ 2 ≤ sizeLine ∧ ("list" == "list") = true ∧ ps.length < sizeLine ∧ F [.fz .row, .fz (.int n), .fz (.lst (ms.map .int)), .fz (.int sh), .ow (ps.map pD ++ [.tup [.int ms[at_.toNat], .int ms[o.toNat]]]), .fz (.int at_), .fz (.int o), c7] :=
      ⟨by decide, by decide, by decide, by omega, yes⟩
    refine bIf_of (fun _ => fin) fun e6 => bIf_of (fun e => ?_) fun _ => no
    have e : 0 < sh := of_decide_eq_true e
    refine ⟨by omega, by omega, fun r hr hr2 => bIf_of (fun _ => fin) fun _ => no⟩
end D7
namespace D7
open PySem PySem.Spec PyProof.Rows L2
theorem loop_needs2 {a : Ad} {n sh : Int} {ms : List Int} {k : DK} {ex : XD} {c7 : Cell} (h0 : 0 ≤ sh) (h7 : sh < 7) (nd : ms.Nodup) (hn : (ms.length : Int) = n) (h24 : n ≤ 24) : ∀ (os : List Int) (ps : List Pr) (y z : Cell), os.Pairwise (· < ·) → (∀ o ∈ os, 0 ≤ o ∧ o < n) → ps.Nodup → (∀ p ∈ ps, inOrd ms p) →
    (∀ p ∈ ps, ∀ o ∈ os, ms[o.toNat]? = some p.1 → False) → ps.length + 24 * os.length ≤ 1000 →
    (∀ (qs : List Pr) y z, qs.Nodup → (∀ p ∈ qs, inOrd ms p) → k.nx [.fz .row, .fz (.int n), .fz (.lst (ms.map .int)), .fz (.int sh), .ow (qs.map pD), y, z, c7]) →
    forW (gNm 5) (t__law_needs_b2 a) k ex (os.map .int) [.fz .row, .fz (.int n), .fz (.lst (ms.map .int)), .fz (.int sh), .ow (ps.map pD), y, z, c7]
  | [], ps, y, z, _, _, d, io, _, _, h => h ps y z d io
  | o :: os, ps, y, z, pw, ok, d, io, nw, hl, h => by
    have hl2 : ps.length + 24 * (os.length + 1) ≤ 1000 := by simpa using hl
    obtain ⟨pw1, pw2⟩ := List.pairwise_cons.mp pw
    obtain ⟨o1, o2⟩ := ok o List.mem_cons_self
    have ih := fun (qs : List Pr) z (hs : qs.Nodup) (hi : ∀ p ∈ qs, inOrd ms p) (hl3 : qs.length ≤ ps.length + 24) (hm : ∀ p ∈ qs, p ∈ ps ∨ ms[o.toNat]? = some p.1) => loop_needs2 (a := a) (k := k) (ex := ex) (c7 := c7) h0 h7 nd hn h24 os qs (.fz (.int o)) z pw2 (fun x hx => ok x (List.mem_cons_of_mem _ hx)) hs hi
      (fun p hp x hx e => by
        rcases hm p hp with hm | hm
        · exact nw p hm x (List.mem_cons_of_mem _ hx) e
        · have h1 := pw1 x hx
          have h2 := ok x (List.mem_cons_of_mem _ hx)
          have lx : x.toNat < ms.length := by omega
          have := (List.getElem?_inj lx nd).mp (e.trans hm.symm)
          omega) (by omega) h
    show gNm 5 _ _ _ _
    generalize hF : forW (gNm 5) (t__law_needs_b2 a) k ex (os.map .int) = F at ih ⊢
    have e2 : (2 : Int) ^ 62 = 4611686018427387904 := by decide
    unfold t__law_needs_b2
    simp only [sSeq, sIf, sRet, sRetN, sNx, sBk, sCt, sSet, sDrop, sAug, sAsg, sPar, sRaise, sSetF, cOf, cLst, cCb, cOp, dOf, dTest, dOp, dUn, dChain, dNot, dNotV, dAnd, dOr, dAndV, dOrV, dIf, dTru, dVar, dC, dCons, dNil, dTup, dLst, dCall, dCb, dIsT, dFld, dProp, dMake, dMethO, dMut, dCut, dTupR, dHeard, dnC, hSl, hOf, hNil, hCons, oSome, oNone, iSeq, iRng1D, iRng2D, gNm, gTp, gC0, gN0, gSto, dYes, kI0, kI, kU, kAdd, kMul, kEq, kNe, kLt, kIs, kIn, kInS, kIx, kLen, kList, kTuple, kInt, kRep, kAppend, kPopAt, kSAdd, kTru_bl, kTru_int, kTru_non, kTru_lst, kTru_tup, kTru_dic, isCell, peek, res, ress, cellD, startC, seqD, List.map_cons, List.map_nil, List.length_cons, List.length_nil, List.cons_append, List.nil_append, List.append_nil, List.replicate_succ, List.replicate_zero, Nat.reduceSub, Nat.reduceAdd, List.getElem?_cons_zero, List.getElem?_cons_succ, List.set_cons_zero, List.set_cons_succ, Option.bind_some, Option.some.injEq, Option.isSome_some, exists_eq_left, exists_eq_left', exists_eq_right, exists_eq_right', exists_and_left, exists_and_right, exists_const, and_assoc, and_true, true_and, Bool.not_true, Bool.not_false, reduceCtorEq, Option.map_some, D.obj.injEq, D.int.injEq, D.bl.injEq, D.lst.injEq, D.tup.injEq, D.str.injEq, Cell.fz.injEq, Cell.ow.injEq, Cell.os.injEq, List.cons.injEq, bIf_t, bIf_f, if_true, if_false, ite_true, ite_false, Bool.false_eq_true, and_self, false_and, and_false, implies_true, sFor, rangeD_eq]
    refine ⟨by omega, by omega, by omega, by omega, ?_⟩
    refine loop_needs1 h0 h7 nd o1 _ ps z (rgI_sorted _ _) (fun x hx => ?_) d io (fun p hp x hx e1 _ => nw p hp o List.mem_cons_self e1) (by rw [rgI_length]; omega) fun qs z hs hi hl3 hm => ih qs z hs hi (by rw [rgI_length] at hl3; omega) hm
    have := rgI_mem hx
    omega
def rowP (p : Pr) : List Int := [p.1, p.2]
def leP (p q : Pr) : Bool := decide (rowP p ≤ rowP q)
def sortP (ps : List Pr) : List Pr := ps.mergeSort leP
theorem sortP_rows (ps : List Pr) : sortR (ps.map rowP) = (sortP ps).map rowP := by
  unfold sortR sortP
  exact (List.map_mergeSort (f := rowP) (r := leP) (s := fun a b => decide (a ≤ b)) (l := ps) fun p _ q _ => rfl).symm
theorem asRows_pD (ps : List Pr) : asRows (ps.map pD) = some (ps.map rowP) := by
  have := asRows_map (ps.map rowP)
  rw [List.map_map] at this
  exact this
theorem lexLt_iff (xs : List Int) : ∀ ys : List Int, HT.lexLt xs ys = true ↔ xs < ys := by
  induction xs with
  | nil => intro ys; cases ys <;> simp [HT.lexLt]
  | cons x xs ih =>
    intro ys
    cases ys with
    | nil => simp [HT.lexLt]
    | cons y ys =>
      rw [HT.lexLt_cons, List.cons_lt_cons_iff]
      by_cases e : x = y
      · subst e
        rw [if_pos rfl, ih]
        simp
      · rw [if_neg e]
        simp [e]
theorem ltP_of_le {p q : Pr} (h : leP p q = true) (ne : p ≠ q) : ltP p q = true := by
  have h1 : rowP p ≤ rowP q := of_decide_eq_true h
  unfold ltP
  rw [lexLt_iff]
  have h2 : ¬ rowP q < rowP p := List.not_lt.mpr h1
  rcases Int.lt_trichotomy p.1 q.1 with l | l | l
  · exact List.cons_lt_cons_iff.mpr (.inl l)
  · rcases Int.lt_trichotomy p.2 q.2 with k | k | k
    · exact List.cons_lt_cons_iff.mpr (.inr ⟨l, List.cons_lt_cons_iff.mpr (.inl k)⟩)
    · exact absurd (Prod.ext l k) ne
    · exact absurd (List.cons_lt_cons_iff.mpr (.inr ⟨l.symm, List.cons_lt_cons_iff.mpr (.inl k)⟩)) h2
  · exact absurd (List.cons_lt_cons_iff.mpr (.inl l)) h2
theorem chainB_of : ∀ {ps : List Pr}, ps.Pairwise (fun p q => leP p q = true) → ps.Nodup → chainB ps = true
  | [], _, _ => rfl
  | [p], _, _ => rfl
  | p :: q :: r, h, d => by
    obtain ⟨h1, h2⟩ := List.pairwise_cons.mp h
    obtain ⟨d1, d2⟩ := List.nodup_cons.mp d
    show (ltP p q && chainB (q :: r)) = true
    rw [ltP_of_le (h1 q List.mem_cons_self) fun e => d1 (e ▸ List.mem_cons_self), chainB_of h2 d2]
    rfl
theorem sortP_chain {ps : List Pr} (d : ps.Nodup) : chainB (sortP ps) = true := by
  have hp : (sortP ps).Perm ps := List.mergeSort_perm ps leP
  refine chainB_of ?_ (hp.nodup_iff.mpr d)
  refine List.pairwise_mergeSort (fun x y z h k => ?_) (fun x y => ?_) ps
  · exact decide_eq_true (List.le_trans (of_decide_eq_true h) (of_decide_eq_true k))
  · unfold leP
    rcases List.le_total (rowP x) (rowP y) with h | h
    · rw [decide_eq_true h]; rfl
    · rw [decide_eq_true h, Bool.or_true]
theorem inOrd_ok {ms : List Int} {n : Int} (hp : ms.Perm (rgI 0 n.toNat)) (h0 : 0 ≤ n) {p : Pr} (h : inOrd ms p) : okP n p := by
  obtain ⟨i, j, hij, h1, h2⟩ := h
  have nd : ms.Nodup := hp.nodup_iff.mpr ((rgI_sorted 0 n.toNat).imp fun h => by omega)
  have m1 := rgI_mem (hp.mem_iff.mp (List.mem_of_getElem? h1))
  have m2 := rgI_mem (hp.mem_iff.mp (List.mem_of_getElem? h2))
  refine ⟨fun e => ?_, m1.1, by omega, m2.1, by omega⟩
  rw [← e] at h2
  have := (List.getElem?_inj (List.getElem?_eq_some_iff.mp h1).1 nd).mp (h1.trans h2.symm)
  omega
theorem inOrd_up {ms : List Int} (nd : ms.Nodup) {ps : List Pr} (h : ∀ p ∈ ps, inOrd ms p) : Upward ps := by
  refine ⟨fun x => (ms.idxOf x : Int), fun p hp => ?_⟩
  obtain ⟨i, j, hij, h1, h2⟩ := h p hp
  have e : ∀ {i : Nat} {x : Int}, ms[i]? = some x → ms.idxOf x = i := fun {i x} h => by
    have hm := List.mem_of_getElem? h
    have lt := List.idxOf_lt_length_of_mem hm
    have := List.getElem_idxOf lt
    have g : ms[ms.idxOf x]? = some x := by rw [List.getElem?_eq_getElem lt, this]
    exact (List.getElem?_inj lt nd).mp (g.trans h.symm)
  simp only [e h1, e h2]
  omega
theorem law__law_needs (a : Ad) : ∀ args q ex, ds__law_needs a args q ex → t__law_needs a (startC 8 args) { nx := fun _ => q .non, rt := fun d _ => q d } ex := by
  rintro args q ex ⟨n, rfl, h0, h24, h⟩
  unfold t__law_needs
  have e2 : (2 : Int) ^ 62 = 4611686018427387904 := by decide
  simp only [sSeq, sIf, sRet, sRetN, sNx, sBk, sCt, sSet, sDrop, sAug, sAsg, sPar, sRaise, sSetF, cOf, cLst, cCb, cOp, dOf, dTest, dOp, dUn, dChain, dNot, dNotV, dAnd, dOr, dAndV, dOrV, dIf, dTru, dVar, dC, dCons, dNil, dTup, dLst, dCall, dCb, dIsT, dFld, dProp, dMake, dMethO, dMut, dCut, dTupR, dHeard, dnC, hSl, hOf, hNil, hCons, oSome, oNone, iSeq, iRng1D, iRng2D, gNm, gTp, gC0, gN0, gSto, dYes, kI0, kI, kU, kAdd, kMul, kEq, kNe, kLt, kIs, kIn, kInS, kIx, kLen, kList, kTuple, kInt, kRep, kAppend, kPopAt, kSAdd, kTru_bl, kTru_int, kTru_non, kTru_lst, kTru_tup, kTru_dic, isCell, peek, res, ress, cellD, startC, seqD, List.map_cons, List.map_nil, List.length_cons, List.length_nil, List.cons_append, List.nil_append, List.append_nil, List.replicate_succ, List.replicate_zero, Nat.reduceSub, Nat.reduceAdd, List.getElem?_cons_zero, List.getElem?_cons_succ, List.set_cons_zero, List.set_cons_succ, Option.bind_some, Option.some.injEq, Option.isSome_some, exists_eq_left, exists_eq_left', exists_eq_right, exists_eq_right', exists_and_left, exists_and_right, exists_const, and_assoc, and_true, true_and, Bool.not_true, Bool.not_false, reduceCtorEq, Option.map_some, D.obj.injEq, D.int.injEq, D.bl.injEq, D.lst.injEq, D.tup.injEq, D.str.injEq, Cell.fz.injEq, Cell.ow.injEq, Cell.os.injEq, List.cons.injEq, bIf_t, bIf_f, if_true, if_false, ite_true, ite_false, Bool.false_eq_true, and_self, false_and, and_false, implies_true, ds__law_taken, ds__law_shuffled, sFor, rangeD_eq, cLc, wipeC]
  refine ⟨by omega, by omega, ?_⟩
  refine lc_needs _ [] .off (by rw [rgI_length]; simp; omega) fun z => ?_
  simp only [sSeq, sIf, sRet, sRetN, sNx, sBk, sCt, sSet, sDrop, sAug, sAsg, sPar, sRaise, sSetF, cOf, cLst, cCb, cOp, dOf, dTest, dOp, dUn, dChain, dNot, dNotV, dAnd, dOr, dAndV, dOrV, dIf, dTru, dVar, dC, dCons, dNil, dTup, dLst, dCall, dCb, dIsT, dFld, dProp, dMake, dMethO, dMut, dCut, dTupR, dHeard, dnC, hSl, hOf, hNil, hCons, oSome, oNone, iSeq, iRng1D, iRng2D, gNm, gTp, gC0, gN0, gSto, dYes, kI0, kI, kU, kAdd, kMul, kEq, kNe, kLt, kIs, kIn, kInS, kIx, kLen, kList, kTuple, kInt, kRep, kAppend, kPopAt, kSAdd, kTru_bl, kTru_int, kTru_non, kTru_lst, kTru_tup, kTru_dic, isCell, peek, res, ress, cellD, startC, seqD, List.map_cons, List.map_nil, List.length_cons, List.length_nil, List.cons_append, List.nil_append, List.append_nil, List.replicate_succ, List.replicate_zero, Nat.reduceSub, Nat.reduceAdd, List.getElem?_cons_zero, List.getElem?_cons_succ, List.set_cons_zero, List.set_cons_succ, Option.bind_some, Option.some.injEq, Option.isSome_some, exists_eq_left, exists_eq_left', exists_eq_right, exists_eq_right', exists_and_left, exists_and_right, exists_const, and_assoc, and_true, true_and, Bool.not_true, Bool.not_false, reduceCtorEq, Option.map_some, D.obj.injEq, D.int.injEq, D.bl.injEq, D.lst.injEq, D.tup.injEq, D.str.injEq, Cell.fz.injEq, Cell.ow.injEq, Cell.os.injEq, List.cons.injEq, bIf_t, bIf_f, if_true, if_false, ite_true, ite_false, Bool.false_eq_true, and_self, false_and, and_false, implies_true, unwipe, keepF]
  refine ⟨rgI 0 n.toNat, rfl, by rw [rgI_length]; omega, fun ms hp => ?_⟩
  refine ⟨by decide, by decide, fun r hr hr2 => ?_⟩
  have nd : ms.Nodup := hp.nodup_iff.mpr ((rgI_sorted 0 n.toNat).imp fun h => by omega)
  have hml : (ms.length : Int) = n := by rw [hp.length_eq, rgI_length]; omega
  refine ⟨Nat.zero_le _, by omega, by omega, ?_⟩
  refine loop_needs2 hr hr2 nd hml h24 _ [] _ _ (rgI_sorted 0 n.toNat) (fun x hx => ?_) List.nodup_nil nofun nofun (by rw [rgI_length]; simp; omega) fun qs y z d io => ?_
  · have := rgI_mem hx
    omega
  · simp only [sSeq, sIf, sRet, sRetN, sNx, sBk, sCt, sSet, sDrop, sAug, sAsg, sPar, sRaise, sSetF, cOf, cLst, cCb, cOp, dOf, dTest, dOp, dUn, dChain, dNot, dNotV, dAnd, dOr, dAndV, dOrV, dIf, dTru, dVar, dC, dCons, dNil, dTup, dLst, dCall, dCb, dIsT, dFld, dProp, dMake, dMethO, dMut, dCut, dTupR, dHeard, dnC, hSl, hOf, hNil, hCons, oSome, oNone, iSeq, iRng1D, iRng2D, gNm, gTp, gC0, gN0, gSto, dYes, kI0, kI, kU, kAdd, kMul, kEq, kNe, kLt, kIs, kIn, kInS, kIx, kLen, kList, kTuple, kInt, kRep, kAppend, kPopAt, kSAdd, kTru_bl, kTru_int, kTru_non, kTru_lst, kTru_tup, kTru_dic, isCell, peek, res, ress, cellD, startC, seqD, List.map_cons, List.map_nil, List.length_cons, List.length_nil, List.cons_append, List.nil_append, List.append_nil, List.replicate_succ, List.replicate_zero, Nat.reduceSub, Nat.reduceAdd, List.getElem?_cons_zero, List.getElem?_cons_succ, List.set_cons_zero, List.set_cons_succ, Option.bind_some, Option.some.injEq, Option.isSome_some, exists_eq_left, exists_eq_left', exists_eq_right, exists_eq_right', exists_and_left, exists_and_right, exists_const, and_assoc, and_true, true_and, Bool.not_true, Bool.not_false, reduceCtorEq, Option.map_some, D.obj.injEq, D.int.injEq, D.bl.injEq, D.lst.injEq, D.tup.injEq, D.str.injEq, Cell.fz.injEq, Cell.ow.injEq, Cell.os.injEq, List.cons.injEq, bIf_t, bIf_f, if_true, if_false, ite_true, ite_false, Bool.false_eq_true, and_self, false_and, and_false, implies_true]
    refine .inr ⟨_, asRows_pD qs, fun r hr => ?_, ?_⟩
    · obtain ⟨p, _, rfl⟩ := List.mem_map.mp hr
      exact nofun
    · rw [sortP_rows, List.map_map]
      have hps : (sortP qs).Perm qs := List.mergeSort_perm qs leP
      have io2 : ∀ p ∈ sortP qs, inOrd ms p := fun p hp => io p (hps.mem_iff.mp hp)
      exact h (sortP qs) ⟨fun p hpp => inOrd_ok hp h0 (io2 p hpp), sortP_chain d⟩ (inOrd_up nd io2)
end D7
namespace D7
open PySem PySem.Spec PyProof.Rows L2
theorem alikeDs_all : ∀ (es ds : List D), es.length = ds.length → alikeD.alikeDs es ds = (List.range ds.length).all fun k => alikeD (es.getD k .non) (ds.getD k .non)
  | [], [], _ => rfl
  | [], _ :: _, h => by simp at h
  | _ :: _, [], h => by simp at h
  | e :: es, d :: ds, h => by
    have ih := alikeDs_all es ds (by simpa using h)
    rw [List.length_cons, List.range_succ_eq_map]
    simp only [alikeD.alikeDs, List.all_cons, List.all_map, ih]
    rfl
theorem alikeDs_len : ∀ (es ds : List D), es.length ≠ ds.length → alikeD.alikeDs es ds = false
  | [], [], h => absurd rfl h
  | [], _ :: _, _ => rfl
  | _ :: _, [], _ => rfl
  | e :: es, d :: ds, h => by
    have ih := alikeDs_len es ds (by simpa using h)
    simp [alikeD.alikeDs, ih]
/-- rows alike, found at a place -/
def fA (es ds : List D) (k : Int) : Bool := alikeD (es.getD k.toNat .non) (ds.getD k.toNat .non)
theorem fA_all (es ds : List D) (h : es.length = ds.length) : alikeD.alikeDs es ds = ((rgI 0 ds.length).filter fun k => !fA es ds k).isEmpty := by
  rw [alikeDs_all es ds h]
  unfold rgI
  rw [List.filter_map, List.isEmpty_map]
  rw [Bool.eq_iff_iff]
  simp only [List.all_eq_true, List.isEmpty_iff, List.filter_eq_nil_iff, List.mem_range, Function.comp, fA]
  constructor
  · intro h k hk
    have := h k hk
    simpa using this
  · intro h k hk
    have := h k hk
    simpa using this
/-- what has items -/
def itemsD : D → Option (List D)
  | .lst ds => some ds
  | .tup ds => some ds
  | _ => none
theorem atI_get {xs : List D} {k : Int} (h0 : 0 ≤ k) (h : k < xs.length) : atI xs k = some (xs.getD k.toNat .non) := atI_nat h0 (by
  have lt : k.toNat < xs.length := by omega
  rw [List.getD_eq_getElem?_getD, List.getElem?_eq_getElem lt]; rfl)
theorem okDs_get {n : Nat} {xs : List D} (h : okDs n xs = true) {k : Nat} (lt : k < xs.length) : okD n (xs.getD k .non) = true := by
  rw [List.getD_eq_getElem?_getD, List.getElem?_eq_getElem lt]
  exact okDs_mem h _ (List.getElem_mem lt)
theorem lc_alike {a : Ad} {self : DSp} {n : Nat} {f d : D} {es ds : List D} {c3 : Cell} {kk : List D → List Cell → Prop} (hself : ∀ found due q ex, okD n due = true → okD 50 found = true → q (.bl (alikeD found due)) → self [found, due] q ex)
    (he : itemsD f = some es) (hd : itemsD d = some ds) (o1 : okDs 50 es = true) (o2 : okDs n ds = true) (hl : es.length = ds.length) : ∀ (ks : List Int) (acc : List D) (z : Cell), (∀ k ∈ ks, 0 ≤ k ∧ k < ds.length) → acc.length + ks.length ≤ sizeLine →
    (∀ z, kk (acc ++ (ks.filter fun k => !fA es ds k).map .int) [.fz f, .fz d, z, c3]) →
    lcW (gNm 2) (t__law_alike_i1 a self) (t__law_alike_e1 a self) [2] kk (ks.map .int) acc [.fz f, .fz d, z, c3]
  | [], acc, z, _, _, h => by simpa [lcW] using h z
  | k :: ks, acc, z, hk, hz, h => by
    have hz2 : acc.length + (ks.length + 1) ≤ sizeLine := by simpa using hz
    have ih1 := lc_alike (a := a) (c3 := c3) (kk := kk) hself he hd o1 o2 hl ks (acc ++ [.int k]) .off (fun x hx => hk x (List.mem_cons_of_mem _ hx)) (by simp; omega)
    have ih2 := lc_alike (a := a) (c3 := c3) (kk := kk) hself he hd o1 o2 hl ks acc .off (fun x hx => hk x (List.mem_cons_of_mem _ hx)) (by omega)
    obtain ⟨k0, k1⟩ := hk k List.mem_cons_self
    show gNm 2 _ _ _ _
    generalize hF : lcW (gNm 2) (t__law_alike_i1 a self) (t__law_alike_e1 a self) [2] kk (ks.map .int) = F at ih1 ih2 ⊢
    have a1 := atI_get k0 (by omega : k < es.length)
    have a2 := atI_get k0 k1
    unfold t__law_alike_i1 t__law_alike_e1
    have main : self [es.getD k.toNat .non, ds.getD k.toNat .non] (fun y => kTru y fun t => bIf (!t) (acc.length < sizeLine ∧ F (acc ++ [D.int k]) [.fz f, .fz d, .off, c3]) (F acc [.fz f, .fz d, .off, c3])) no := by
      refine hself _ _ _ _ (okDs_get o2 (by omega)) (okDs_get o1 (by omega)) ?_
      show bIf (!fA es ds k) _ _
      refine bIf_of (fun e => ⟨by omega, ih1 fun z => ?_⟩) fun e => ih2 fun z => ?_
      · have := h z
        rw [List.filter_cons_of_pos (by simpa using e)] at this
        simpa using this
      · have := h z
        rw [List.filter_cons_of_neg (by simpa using e)] at this
        exact this
    cases f <;> first | (cases he; done) | skip
    all_goals cases d <;> first | (cases hd; done) | skip
    all_goals (cases he; cases hd; simp only [sSeq, sIf, sRet, sRetN, sNx, sBk, sCt, sSet, sDrop, sAug, sAsg, sPar, sRaise, sSetF, cOf, cLst, cCb, cOp, dOf, dTest, dOp, dUn, dChain, dNot, dNotV, dAnd, dOr, dAndV, dOrV, dIf, dTru, dVar, dC, dCons, dNil, dTup, dLst, dCall, dCb, dIsT, dFld, dProp, dMake, dMethO, dMut, dCut, dTupR, dHeard, dnC, hSl, hOf, hNil, hCons, oSome, oNone, iSeq, iRng1D, iRng2D, gNm, gTp, gC0, gN0, gSto, dYes, kI0, kI, kU, kAdd, kMul, kEq, kNe, kLt, kIs, kIn, kInS, kIx, kLen, kList, kTuple, kInt, kRep, kAppend, kPopAt, kSAdd, kTru_bl, kTru_int, kTru_non, kTru_lst, kTru_tup, kTru_dic, isCell, peek, res, ress, cellD, startC, seqD, List.map_cons, List.map_nil, List.length_cons, List.length_nil, List.cons_append, List.nil_append, List.append_nil, List.replicate_succ, List.replicate_zero, Nat.reduceSub, Nat.reduceAdd, List.getElem?_cons_zero, List.getElem?_cons_succ, List.set_cons_zero, List.set_cons_succ, Option.bind_some, Option.some.injEq, Option.isSome_some, exists_eq_left, exists_eq_left', exists_eq_right, exists_eq_right', exists_and_left, exists_and_right, exists_const, and_assoc, and_true, true_and, Bool.not_true, Bool.not_false, reduceCtorEq, Option.map_some, D.obj.injEq, D.int.injEq, D.bl.injEq, D.lst.injEq, D.tup.injEq, D.str.injEq, Cell.fz.injEq, Cell.ow.injEq, Cell.os.injEq, List.cons.injEq, bIf_t, bIf_f, if_true, if_false, ite_true, ite_false, Bool.false_eq_true, and_self, false_and, and_false, implies_true, wipeC, a1, a2]; exact main)
def dsA (m : Nat) : DSp := fun args q _ => ∃ found due, args = [found, due] ∧ okD m due = true ∧ okD 50 found = true ∧ q (.bl (alikeD found due))
theorem alike_seq {a : Ad} {self : DSp} {n : Nat} {f d : D} {es ds : List D} {q : D → Prop} (hself : ∀ found due q ex, okD n due = true → okD 50 found = true → q (.bl (alikeD found due)) → self [found, due] q ex)
    (he : itemsD f = some es) (hd : itemsD d = some ds) (o1 : okDs 50 es = true) (o2 : okDs n ds = true) (hq : q (.bl (alikeD.alikeDs es ds))) :
    es.length ≤ sizeLine → ds.length ≤ sizeLine → okD 60 (.int (es.length : Int)) = true ∧ okD 60 (.int (ds.length : Int)) = true ∧ bIf (!eqD (.int (es.length : Int)) (.int (ds.length : Int))) (q (.bl false))
      (ds.length ≤ sizeLine → -2 ^ 62 ≤ (ds.length : Int) ∧ (ds.length : Int) < 2 ^ 62 ∧ lcW (gNm 2) (t__law_alike_i1 a self) (t__law_alike_e1 a self) [2] (fun acc ρ2 => 0 ≤ sizeLine ∧ okD 60 (.lst acc) = true ∧ okD 60 (.lst []) = true ∧ q (.bl (eqD (.lst acc) (.lst [])))) (rangeD 0 (ds.length : Int).toNat) [] [.fz f, .fz d, .off, .off]) := by
  have e2 : (2 : Int) ^ 62 = 4611686018427387904 := by decide
  have sl := sizeLine_eq
  refine fun _ hz => ⟨by simp [okD], by simp [okD], bIf_of (fun e => ?_) fun e _ => ?_⟩
  · have : es.length ≠ ds.length := fun z => by simp [eqD, z] at e
    rw [alikeDs_len es ds this] at hq
    exact hq
  · have hl : es.length = ds.length := by simp [eqD] at e; omega
    refine ⟨by omega, by omega, ?_⟩
    rw [rangeD_eq, Int.toNat_natCast]
    refine lc_alike hself he hd o1 o2 hl _ [] .off (fun k hk => by have := rgI_mem hk; omega) (by rw [rgI_length]; simpa using hz) fun z => ?_
    refine ⟨Nat.zero_le _, ?_, by simp [okD, okDs], ?_⟩
    · simp only [okD]; exact okDs_ints _ _
    · rw [fA_all es ds hl] at hq
      have : ∀ l : List Int, eqD (.lst ([] ++ l.map .int)) (.lst []) = l.isEmpty := fun l => by cases l <;> simp [eqD, eqDs]
      rw [this]
      exact hq
theorem law_alike_step (a : Ad) (self : DSp) (n : Nat) (b : Bool) (hself : b = true → ∀ found due q ex, okD n due = true → okD 50 found = true → q (.bl (alikeD found due)) → self [found, due] q ex) :
    ∀ args q ex, dsA (n + 1) args q ex → (b = true ∨ ∃ f d, args = [f, d] ∧ okD 0 d = true) → t__law_alike a self (startC 4 args) { nx := fun _ => q .non, rt := fun d _ => q d } ex := by
  rintro args q ex ⟨f, d, rfl, od, of, h⟩ hb
  have kd := okD_kind [a.Todo] od
  have kf := okD_kind [a.Todo] of
  unfold t__law_alike
  simp only [sSeq, sIf, sRet, sRetN, sNx, sBk, sCt, sSet, sDrop, sAug, sAsg, sPar, sRaise, sSetF, cOf, cLst, cCb, cOp, dOf, dTest, dOp, dUn, dChain, dNot, dNotV, dAnd, dOr, dAndV, dOrV, dIf, dTru, dVar, dC, dCons, dNil, dTup, dLst, dCall, dCb, dIsT, dFld, dProp, dMake, dMethO, dMut, dCut, dTupR, dHeard, dnC, hSl, hOf, hNil, hCons, oSome, oNone, iSeq, iRng1D, iRng2D, gNm, gTp, gC0, gN0, gSto, dYes, kI0, kI, kU, kAdd, kMul, kEq, kNe, kLt, kIs, kIn, kInS, kIx, kLen, kList, kTuple, kInt, kRep, kAppend, kPopAt, kSAdd, kTru_bl, kTru_int, kTru_non, kTru_lst, kTru_tup, kTru_dic, isCell, peek, res, ress, cellD, startC, seqD, List.map_cons, List.map_nil, List.length_cons, List.length_nil, List.cons_append, List.nil_append, List.append_nil, List.replicate_succ, List.replicate_zero, Nat.reduceSub, Nat.reduceAdd, List.getElem?_cons_zero, List.getElem?_cons_succ, List.set_cons_zero, List.set_cons_succ, Option.bind_some, Option.some.injEq, Option.isSome_some, exists_eq_left, exists_eq_left', exists_eq_right, exists_eq_right', exists_and_left, exists_and_right, exists_const, and_assoc, and_true, true_and, Bool.not_true, Bool.not_false, reduceCtorEq, Option.map_some, D.obj.injEq, D.int.injEq, D.bl.injEq, D.lst.injEq, D.tup.injEq, D.str.injEq, Cell.fz.injEq, Cell.ow.injEq, Cell.os.injEq, List.cons.injEq, bIf_t, bIf_f, if_true, if_false, ite_true, ite_false, Bool.false_eq_true, and_self, false_and, and_false, implies_true, cLc, unwipe, keepF, wipeC]
  have s1 : (("tuple" : String) == "tuple") = true := rfl
  have s2 : (("list" : String) == "list") = true := rfl
  have s3 : (("list" : String) == "tuple") = false := by decide
  have s4 : (("tuple" : String) == "list") = false := by decide
  have e2 : (2 : Int) ^ 62 = 4611686018427387904 := by decide
  have sl := sizeLine_eq
  have b1 : eqD (.bl true) (.bl false) = false := by decide
  have b2 : eqD (.bl false) (.bl true) = false := by decide
  have b3 : eqD (.bl false) (.bl false) = true := by decide
  have b4 : eqD (.bl true) (.bl true) = true := by decide
  have ob : ∀ b, okD 60 (.bl b) = true := fun b => by simp [okD]
  cases d with
  | tup ds =>
    have hb : b = true := by
      rcases hb with z | ⟨f1, d1, e, z⟩
      · exact z
      · cases e; simp [okD] at z
    have hself := hself hb
    have o2 : okDs n ds = true := by simpa [okD] using od
    cases f with
    | tup es =>
      have o1 : okDs 50 es = true := okD_mono.okDs_mono (by omega) (show okDs 49 es = true by simpa [okD] using of)
      simp only [isT, tyD, s1, s2, s3, s4, Bool.or_true, Bool.true_or, Bool.or_false, b1, b2, b3, b4, ob, sSeq, sIf, sRet, sRetN, sNx, sBk, sCt, sSet, sDrop, sAug, sAsg, sPar, sRaise, sSetF, cOf, cLst, cCb, cOp, dOf, dTest, dOp, dUn, dChain, dNot, dNotV, dAnd, dOr, dAndV, dOrV, dIf, dTru, dVar, dC, dCons, dNil, dTup, dLst, dCall, dCb, dIsT, dFld, dProp, dMake, dMethO, dMut, dCut, dTupR, dHeard, dnC, hSl, hOf, hNil, hCons, oSome, oNone, iSeq, iRng1D, iRng2D, gNm, gTp, gC0, gN0, gSto, dYes, kI0, kI, kU, kAdd, kMul, kEq, kNe, kLt, kIs, kIn, kInS, kIx, kLen, kList, kTuple, kInt, kRep, kAppend, kPopAt, kSAdd, kTru_bl, kTru_int, kTru_non, kTru_lst, kTru_tup, kTru_dic, isCell, peek, res, ress, cellD, startC, seqD, List.map_cons, List.map_nil, List.length_cons, List.length_nil, List.cons_append, List.nil_append, List.append_nil, List.replicate_succ, List.replicate_zero, Nat.reduceSub, Nat.reduceAdd, List.getElem?_cons_zero, List.getElem?_cons_succ, List.set_cons_zero, List.set_cons_succ, Option.bind_some, Option.some.injEq, Option.isSome_some, exists_eq_left, exists_eq_left', exists_eq_right, exists_eq_right', exists_and_left, exists_and_right, exists_const, and_assoc, and_true, true_and, Bool.not_true, Bool.not_false, reduceCtorEq, Option.map_some, D.obj.injEq, D.int.injEq, D.bl.injEq, D.lst.injEq, D.tup.injEq, D.str.injEq, Cell.fz.injEq, Cell.ow.injEq, Cell.os.injEq, List.cons.injEq, bIf_t, bIf_f, if_true, if_false, ite_true, ite_false, Bool.false_eq_true, and_self, false_and, and_false, implies_true]
      exact ⟨kd, kf, kf, kd, alike_seq hself rfl rfl o1 o2 h⟩
    | lst es =>
      simp only [isT, tyD, s1, s2, s3, s4, Bool.or_true, Bool.true_or, Bool.or_false, b1, b2, b3, b4, ob, sSeq, sIf, sRet, sRetN, sNx, sBk, sCt, sSet, sDrop, sAug, sAsg, sPar, sRaise, sSetF, cOf, cLst, cCb, cOp, dOf, dTest, dOp, dUn, dChain, dNot, dNotV, dAnd, dOr, dAndV, dOrV, dIf, dTru, dVar, dC, dCons, dNil, dTup, dLst, dCall, dCb, dIsT, dFld, dProp, dMake, dMethO, dMut, dCut, dTupR, dHeard, dnC, hSl, hOf, hNil, hCons, oSome, oNone, iSeq, iRng1D, iRng2D, gNm, gTp, gC0, gN0, gSto, dYes, kI0, kI, kU, kAdd, kMul, kEq, kNe, kLt, kIs, kIn, kInS, kIx, kLen, kList, kTuple, kInt, kRep, kAppend, kPopAt, kSAdd, kTru_bl, kTru_int, kTru_non, kTru_lst, kTru_tup, kTru_dic, isCell, peek, res, ress, cellD, startC, seqD, List.map_cons, List.map_nil, List.length_cons, List.length_nil, List.cons_append, List.nil_append, List.append_nil, List.replicate_succ, List.replicate_zero, Nat.reduceSub, Nat.reduceAdd, List.getElem?_cons_zero, List.getElem?_cons_succ, List.set_cons_zero, List.set_cons_succ, Option.bind_some, Option.some.injEq, Option.isSome_some, exists_eq_left, exists_eq_left', exists_eq_right, exists_eq_right', exists_and_left, exists_and_right, exists_const, and_assoc, and_true, true_and, Bool.not_true, Bool.not_false, reduceCtorEq, Option.map_some, D.obj.injEq, D.int.injEq, D.bl.injEq, D.lst.injEq, D.tup.injEq, D.str.injEq, Cell.fz.injEq, Cell.ow.injEq, Cell.os.injEq, List.cons.injEq, bIf_t, bIf_f, if_true, if_false, ite_true, ite_false, Bool.false_eq_true, and_self, false_and, and_false, implies_true]
      exact ⟨kd, kf, kf, kd, h⟩
    | _ =>
      first
        | (simp [okD] at of; done)
        | (simp only [isT, tyD, String.reduceBEq, Bool.or_true, Bool.true_or, Bool.or_false, b1, b2, b3, b4, ob, sSeq, sIf, sRet, sRetN, sNx, sBk, sCt, sSet, sDrop, sAug, sAsg, sPar, sRaise, sSetF, cOf, cLst, cCb, cOp, dOf, dTest, dOp, dUn, dChain, dNot, dNotV, dAnd, dOr, dAndV, dOrV, dIf, dTru, dVar, dC, dCons, dNil, dTup, dLst, dCall, dCb, dIsT, dFld, dProp, dMake, dMethO, dMut, dCut, dTupR, dHeard, dnC, hSl, hOf, hNil, hCons, oSome, oNone, iSeq, iRng1D, iRng2D, gNm, gTp, gC0, gN0, gSto, dYes, kI0, kI, kU, kAdd, kMul, kEq, kNe, kLt, kIs, kIn, kInS, kIx, kLen, kList, kTuple, kInt, kRep, kAppend, kPopAt, kSAdd, kTru_bl, kTru_int, kTru_non, kTru_lst, kTru_tup, kTru_dic, isCell, peek, res, ress, cellD, startC, seqD, List.map_cons, List.map_nil, List.length_cons, List.length_nil, List.cons_append, List.nil_append, List.append_nil, List.replicate_succ, List.replicate_zero, Nat.reduceSub, Nat.reduceAdd, List.getElem?_cons_zero, List.getElem?_cons_succ, List.set_cons_zero, List.set_cons_succ, Option.bind_some, Option.some.injEq, Option.isSome_some, exists_eq_left, exists_eq_left', exists_eq_right, exists_eq_right', exists_and_left, exists_and_right, exists_const, and_assoc, and_true, true_and, Bool.not_true, Bool.not_false, reduceCtorEq, Option.map_some, D.obj.injEq, D.int.injEq, D.bl.injEq, D.lst.injEq, D.tup.injEq, D.str.injEq, Cell.fz.injEq, Cell.ow.injEq, Cell.os.injEq, List.cons.injEq, bIf_t, bIf_f, if_true, if_false, ite_true, ite_false, Bool.false_eq_true, and_self, false_and, and_false, implies_true]
           exact ⟨kd, kf, h⟩)
  | lst ds =>
    have hb : b = true := by
      rcases hb with z | ⟨f1, d1, e, z⟩
      · exact z
      · cases e; simp [okD] at z
    have hself := hself hb
    have o2 : okDs n ds = true := by simpa [okD] using od
    cases f with
    | lst es =>
      have o1 : okDs 50 es = true := okD_mono.okDs_mono (by omega) (show okDs 49 es = true by simpa [okD] using of)
      simp only [isT, tyD, s1, s2, s3, s4, Bool.or_true, Bool.true_or, Bool.or_false, b1, b2, b3, b4, ob, sSeq, sIf, sRet, sRetN, sNx, sBk, sCt, sSet, sDrop, sAug, sAsg, sPar, sRaise, sSetF, cOf, cLst, cCb, cOp, dOf, dTest, dOp, dUn, dChain, dNot, dNotV, dAnd, dOr, dAndV, dOrV, dIf, dTru, dVar, dC, dCons, dNil, dTup, dLst, dCall, dCb, dIsT, dFld, dProp, dMake, dMethO, dMut, dCut, dTupR, dHeard, dnC, hSl, hOf, hNil, hCons, oSome, oNone, iSeq, iRng1D, iRng2D, gNm, gTp, gC0, gN0, gSto, dYes, kI0, kI, kU, kAdd, kMul, kEq, kNe, kLt, kIs, kIn, kInS, kIx, kLen, kList, kTuple, kInt, kRep, kAppend, kPopAt, kSAdd, kTru_bl, kTru_int, kTru_non, kTru_lst, kTru_tup, kTru_dic, isCell, peek, res, ress, cellD, startC, seqD, List.map_cons, List.map_nil, List.length_cons, List.length_nil, List.cons_append, List.nil_append, List.append_nil, List.replicate_succ, List.replicate_zero, Nat.reduceSub, Nat.reduceAdd, List.getElem?_cons_zero, List.getElem?_cons_succ, List.set_cons_zero, List.set_cons_succ, Option.bind_some, Option.some.injEq, Option.isSome_some, exists_eq_left, exists_eq_left', exists_eq_right, exists_eq_right', exists_and_left, exists_and_right, exists_const, and_assoc, and_true, true_and, Bool.not_true, Bool.not_false, reduceCtorEq, Option.map_some, D.obj.injEq, D.int.injEq, D.bl.injEq, D.lst.injEq, D.tup.injEq, D.str.injEq, Cell.fz.injEq, Cell.ow.injEq, Cell.os.injEq, List.cons.injEq, bIf_t, bIf_f, if_true, if_false, ite_true, ite_false, Bool.false_eq_true, and_self, false_and, and_false, implies_true]
      exact ⟨kd, kf, kf, kd, alike_seq hself rfl rfl o1 o2 h⟩
    | tup es =>
      simp only [isT, tyD, s1, s2, s3, s4, Bool.or_true, Bool.true_or, Bool.or_false, b1, b2, b3, b4, ob, sSeq, sIf, sRet, sRetN, sNx, sBk, sCt, sSet, sDrop, sAug, sAsg, sPar, sRaise, sSetF, cOf, cLst, cCb, cOp, dOf, dTest, dOp, dUn, dChain, dNot, dNotV, dAnd, dOr, dAndV, dOrV, dIf, dTru, dVar, dC, dCons, dNil, dTup, dLst, dCall, dCb, dIsT, dFld, dProp, dMake, dMethO, dMut, dCut, dTupR, dHeard, dnC, hSl, hOf, hNil, hCons, oSome, oNone, iSeq, iRng1D, iRng2D, gNm, gTp, gC0, gN0, gSto, dYes, kI0, kI, kU, kAdd, kMul, kEq, kNe, kLt, kIs, kIn, kInS, kIx, kLen, kList, kTuple, kInt, kRep, kAppend, kPopAt, kSAdd, kTru_bl, kTru_int, kTru_non, kTru_lst, kTru_tup, kTru_dic, isCell, peek, res, ress, cellD, startC, seqD, List.map_cons, List.map_nil, List.length_cons, List.length_nil, List.cons_append, List.nil_append, List.append_nil, List.replicate_succ, List.replicate_zero, Nat.reduceSub, Nat.reduceAdd, List.getElem?_cons_zero, List.getElem?_cons_succ, List.set_cons_zero, List.set_cons_succ, Option.bind_some, Option.some.injEq, Option.isSome_some, exists_eq_left, exists_eq_left', exists_eq_right, exists_eq_right', exists_and_left, exists_and_right, exists_const, and_assoc, and_true, true_and, Bool.not_true, Bool.not_false, reduceCtorEq, Option.map_some, D.obj.injEq, D.int.injEq, D.bl.injEq, D.lst.injEq, D.tup.injEq, D.str.injEq, Cell.fz.injEq, Cell.ow.injEq, Cell.os.injEq, List.cons.injEq, bIf_t, bIf_f, if_true, if_false, ite_true, ite_false, Bool.false_eq_true, and_self, false_and, and_false, implies_true]
      exact ⟨kd, kf, kf, kd, h⟩
    | _ =>
      first
        | (simp [okD] at of; done)
        | (simp only [isT, tyD, String.reduceBEq, Bool.or_true, Bool.true_or, Bool.or_false, b1, b2, b3, b4, ob, sSeq, sIf, sRet, sRetN, sNx, sBk, sCt, sSet, sDrop, sAug, sAsg, sPar, sRaise, sSetF, cOf, cLst, cCb, cOp, dOf, dTest, dOp, dUn, dChain, dNot, dNotV, dAnd, dOr, dAndV, dOrV, dIf, dTru, dVar, dC, dCons, dNil, dTup, dLst, dCall, dCb, dIsT, dFld, dProp, dMake, dMethO, dMut, dCut, dTupR, dHeard, dnC, hSl, hOf, hNil, hCons, oSome, oNone, iSeq, iRng1D, iRng2D, gNm, gTp, gC0, gN0, gSto, dYes, kI0, kI, kU, kAdd, kMul, kEq, kNe, kLt, kIs, kIn, kInS, kIx, kLen, kList, kTuple, kInt, kRep, kAppend, kPopAt, kSAdd, kTru_bl, kTru_int, kTru_non, kTru_lst, kTru_tup, kTru_dic, isCell, peek, res, ress, cellD, startC, seqD, List.map_cons, List.map_nil, List.length_cons, List.length_nil, List.cons_append, List.nil_append, List.append_nil, List.replicate_succ, List.replicate_zero, Nat.reduceSub, Nat.reduceAdd, List.getElem?_cons_zero, List.getElem?_cons_succ, List.set_cons_zero, List.set_cons_succ, Option.bind_some, Option.some.injEq, Option.isSome_some, exists_eq_left, exists_eq_left', exists_eq_right, exists_eq_right', exists_and_left, exists_and_right, exists_const, and_assoc, and_true, true_and, Bool.not_true, Bool.not_false, reduceCtorEq, Option.map_some, D.obj.injEq, D.int.injEq, D.bl.injEq, D.lst.injEq, D.tup.injEq, D.str.injEq, Cell.fz.injEq, Cell.ow.injEq, Cell.os.injEq, List.cons.injEq, bIf_t, bIf_f, if_true, if_false, ite_true, ite_false, Bool.false_eq_true, and_self, false_and, and_false, implies_true]
           exact ⟨kd, kf, h⟩)
  | non =>
    cases f <;> first
      | (simp [okD] at of; done)
      | (simp only [isT, tyD, String.reduceBEq, Bool.or_true, Bool.true_or, Bool.or_false, b1, b2, b3, b4, ob, okD, eqD, alikeD, kindD, sSeq, sIf, sRet, sRetN, sNx, sBk, sCt, sSet, sDrop, sAug, sAsg, sPar, sRaise, sSetF, cOf, cLst, cCb, cOp, dOf, dTest, dOp, dUn, dChain, dNot, dNotV, dAnd, dOr, dAndV, dOrV, dIf, dTru, dVar, dC, dCons, dNil, dTup, dLst, dCall, dCb, dIsT, dFld, dProp, dMake, dMethO, dMut, dCut, dTupR, dHeard, dnC, hSl, hOf, hNil, hCons, oSome, oNone, iSeq, iRng1D, iRng2D, gNm, gTp, gC0, gN0, gSto, dYes, kI0, kI, kU, kAdd, kMul, kEq, kNe, kLt, kIs, kIn, kInS, kIx, kLen, kList, kTuple, kInt, kRep, kAppend, kPopAt, kSAdd, kTru_bl, kTru_int, kTru_non, kTru_lst, kTru_tup, kTru_dic, isCell, peek, res, ress, cellD, startC, seqD, List.map_cons, List.map_nil, List.length_cons, List.length_nil, List.cons_append, List.nil_append, List.append_nil, List.replicate_succ, List.replicate_zero, Nat.reduceSub, Nat.reduceAdd, List.getElem?_cons_zero, List.getElem?_cons_succ, List.set_cons_zero, List.set_cons_succ, Option.bind_some, Option.some.injEq, Option.isSome_some, exists_eq_left, exists_eq_left', exists_eq_right, exists_eq_right', exists_and_left, exists_and_right, exists_const, and_assoc, and_true, true_and, Bool.not_true, Bool.not_false, reduceCtorEq, Option.map_some, D.obj.injEq, D.int.injEq, D.bl.injEq, D.lst.injEq, D.tup.injEq, D.str.injEq, Cell.fz.injEq, Cell.ow.injEq, Cell.os.injEq, List.cons.injEq, bIf_t, bIf_f, if_true, if_false, ite_true, ite_false, Bool.false_eq_true, and_self, false_and, and_false, implies_true] at h ⊢
         simp_all [okD, bIf_t, bIf_f] <;> first
           | exact okD_mono.okDs_mono (by omega) of
           | exact bIf_of (fun e => by rw [e] at h; exact h) fun e => by rw [e] at h; exact h)
  | bl b =>
    cases f <;> first
      | (simp [okD] at of; done)
      | (simp only [isT, tyD, String.reduceBEq, Bool.or_true, Bool.true_or, Bool.or_false, b1, b2, b3, b4, ob, okD, eqD, alikeD, kindD, sSeq, sIf, sRet, sRetN, sNx, sBk, sCt, sSet, sDrop, sAug, sAsg, sPar, sRaise, sSetF, cOf, cLst, cCb, cOp, dOf, dTest, dOp, dUn, dChain, dNot, dNotV, dAnd, dOr, dAndV, dOrV, dIf, dTru, dVar, dC, dCons, dNil, dTup, dLst, dCall, dCb, dIsT, dFld, dProp, dMake, dMethO, dMut, dCut, dTupR, dHeard, dnC, hSl, hOf, hNil, hCons, oSome, oNone, iSeq, iRng1D, iRng2D, gNm, gTp, gC0, gN0, gSto, dYes, kI0, kI, kU, kAdd, kMul, kEq, kNe, kLt, kIs, kIn, kInS, kIx, kLen, kList, kTuple, kInt, kRep, kAppend, kPopAt, kSAdd, kTru_bl, kTru_int, kTru_non, kTru_lst, kTru_tup, kTru_dic, isCell, peek, res, ress, cellD, startC, seqD, List.map_cons, List.map_nil, List.length_cons, List.length_nil, List.cons_append, List.nil_append, List.append_nil, List.replicate_succ, List.replicate_zero, Nat.reduceSub, Nat.reduceAdd, List.getElem?_cons_zero, List.getElem?_cons_succ, List.set_cons_zero, List.set_cons_succ, Option.bind_some, Option.some.injEq, Option.isSome_some, exists_eq_left, exists_eq_left', exists_eq_right, exists_eq_right', exists_and_left, exists_and_right, exists_const, and_assoc, and_true, true_and, Bool.not_true, Bool.not_false, reduceCtorEq, Option.map_some, D.obj.injEq, D.int.injEq, D.bl.injEq, D.lst.injEq, D.tup.injEq, D.str.injEq, Cell.fz.injEq, Cell.ow.injEq, Cell.os.injEq, List.cons.injEq, bIf_t, bIf_f, if_true, if_false, ite_true, ite_false, Bool.false_eq_true, and_self, false_and, and_false, implies_true] at h ⊢
         simp_all [okD, bIf_t, bIf_f] <;> first
           | exact okD_mono.okDs_mono (by omega) of
           | exact bIf_of (fun e => by rw [e] at h; exact h) fun e => by rw [e] at h; exact h)
  | int i =>
    cases f <;> first
      | (simp [okD] at of; done)
      | (simp only [isT, tyD, String.reduceBEq, Bool.or_true, Bool.true_or, Bool.or_false, b1, b2, b3, b4, ob, okD, eqD, alikeD, kindD, sSeq, sIf, sRet, sRetN, sNx, sBk, sCt, sSet, sDrop, sAug, sAsg, sPar, sRaise, sSetF, cOf, cLst, cCb, cOp, dOf, dTest, dOp, dUn, dChain, dNot, dNotV, dAnd, dOr, dAndV, dOrV, dIf, dTru, dVar, dC, dCons, dNil, dTup, dLst, dCall, dCb, dIsT, dFld, dProp, dMake, dMethO, dMut, dCut, dTupR, dHeard, dnC, hSl, hOf, hNil, hCons, oSome, oNone, iSeq, iRng1D, iRng2D, gNm, gTp, gC0, gN0, gSto, dYes, kI0, kI, kU, kAdd, kMul, kEq, kNe, kLt, kIs, kIn, kInS, kIx, kLen, kList, kTuple, kInt, kRep, kAppend, kPopAt, kSAdd, kTru_bl, kTru_int, kTru_non, kTru_lst, kTru_tup, kTru_dic, isCell, peek, res, ress, cellD, startC, seqD, List.map_cons, List.map_nil, List.length_cons, List.length_nil, List.cons_append, List.nil_append, List.append_nil, List.replicate_succ, List.replicate_zero, Nat.reduceSub, Nat.reduceAdd, List.getElem?_cons_zero, List.getElem?_cons_succ, List.set_cons_zero, List.set_cons_succ, Option.bind_some, Option.some.injEq, Option.isSome_some, exists_eq_left, exists_eq_left', exists_eq_right, exists_eq_right', exists_and_left, exists_and_right, exists_const, and_assoc, and_true, true_and, Bool.not_true, Bool.not_false, reduceCtorEq, Option.map_some, D.obj.injEq, D.int.injEq, D.bl.injEq, D.lst.injEq, D.tup.injEq, D.str.injEq, Cell.fz.injEq, Cell.ow.injEq, Cell.os.injEq, List.cons.injEq, bIf_t, bIf_f, if_true, if_false, ite_true, ite_false, Bool.false_eq_true, and_self, false_and, and_false, implies_true] at h ⊢
         simp_all [okD, bIf_t, bIf_f] <;> first
           | exact okD_mono.okDs_mono (by omega) of
           | exact bIf_of (fun e => by rw [e] at h; exact h) fun e => by rw [e] at h; exact h)
  | str x =>
    have ox : PyData.strOk x = true := by simpa [okD] using od
    cases f <;> first
      | (simp [okD] at of; done)
      | (simp only [isT, tyD, String.reduceBEq, Bool.or_true, Bool.true_or, Bool.or_false, b1, b2, b3, b4, ob, okD, eqD, alikeD, kindD, sSeq, sIf, sRet, sRetN, sNx, sBk, sCt, sSet, sDrop, sAug, sAsg, sPar, sRaise, sSetF, cOf, cLst, cCb, cOp, dOf, dTest, dOp, dUn, dChain, dNot, dNotV, dAnd, dOr, dAndV, dOrV, dIf, dTru, dVar, dC, dCons, dNil, dTup, dLst, dCall, dCb, dIsT, dFld, dProp, dMake, dMethO, dMut, dCut, dTupR, dHeard, dnC, hSl, hOf, hNil, hCons, oSome, oNone, iSeq, iRng1D, iRng2D, gNm, gTp, gC0, gN0, gSto, dYes, kI0, kI, kU, kAdd, kMul, kEq, kNe, kLt, kIs, kIn, kInS, kIx, kLen, kList, kTuple, kInt, kRep, kAppend, kPopAt, kSAdd, kTru_bl, kTru_int, kTru_non, kTru_lst, kTru_tup, kTru_dic, isCell, peek, res, ress, cellD, startC, seqD, List.map_cons, List.map_nil, List.length_cons, List.length_nil, List.cons_append, List.nil_append, List.append_nil, List.replicate_succ, List.replicate_zero, Nat.reduceSub, Nat.reduceAdd, List.getElem?_cons_zero, List.getElem?_cons_succ, List.set_cons_zero, List.set_cons_succ, Option.bind_some, Option.some.injEq, Option.isSome_some, exists_eq_left, exists_eq_left', exists_eq_right, exists_eq_right', exists_and_left, exists_and_right, exists_const, and_assoc, and_true, true_and, Bool.not_true, Bool.not_false, reduceCtorEq, Option.map_some, D.obj.injEq, D.int.injEq, D.bl.injEq, D.lst.injEq, D.tup.injEq, D.str.injEq, Cell.fz.injEq, Cell.ow.injEq, Cell.os.injEq, List.cons.injEq, bIf_t, bIf_f, if_true, if_false, ite_true, ite_false, Bool.false_eq_true, and_self, false_and, and_false, implies_true] at h ⊢
         simp_all [okD, bIf_t, bIf_f] <;> first
           | exact okD_mono.okDs_mono (by omega) of
           | exact bIf_of (fun e => by rw [e] at h; exact h) fun e => by rw [e] at h; exact h)
  | _ => simp [okD] at od
end D7
namespace D7
open PySem PySem.Spec PyProof.Rows L2
def badD (r g : Int) : List D := [.int 25, .int (-1), .non, .bl true, .str "3", .tup [.int 3], .int (26 + r)]
def wrongD (g : Int) : List D := [.non, .lst [], .tup [.tup [.int 0, .int 0]], .tup [.tup [.int 0, .int 1], .tup [.int 0, .int 1]], .tup [.tup [.int 1, .int 0], .tup [.int 0, .int 2]], .tup [.tup [.int 0, .int g]],
  .tup [.tup [.int (-1), .int 0]], .tup [.int 0, .int 1], .tup [.tup [.int 0, .int 1, .int 2]], .tup [.tup [.bl true, .int 2]], .tup [.lst [.int 0, .int 1]], .str "01"]
theorem bad_ok (a : Ad) {r g : Int} (hr : 0 ≤ r) : ∀ d ∈ badD r g, kindD [a.Todo] d = true ∧ numD d 0 24 = false := by
  intro d hd
  simp only [badD, List.mem_cons, List.not_mem_nil, or_false] at hd
  rcases hd with rfl | rfl | rfl | rfl | rfl | rfl | rfl <;> refine ⟨rfl, ?_⟩ <;> simp [numD]
  omega
theorem wrong_ok {g : Int} (h9 : 9 ≤ g) : ∀ d ∈ wrongD g, okD 50 d = true ∧ needsD d g = none := by
  have p01 : pairD g (.tup [.int 0, .int 1]) = some (0, 1) := by simp [pairD, okPB]; omega
  have p10 : pairD g (.tup [.int 1, .int 0]) = some (1, 0) := by simp [pairD, okPB]; omega
  have p02 : pairD g (.tup [.int 0, .int 2]) = some (0, 2) := by simp [pairD, okPB]; omega
  have p00 : pairD g (.tup [.int 0, .int 0]) = none := by simp [pairD, okPB]
  have p0g : pairD g (.tup [.int 0, .int g]) = none := by simp [pairD, okPB]
  have pm : pairD g (.tup [.int (-1), .int 0]) = none := by simp [pairD, okPB]
  intro d hd
  simp only [wrongD, List.mem_cons, List.not_mem_nil, or_false] at hd
  rcases hd with rfl | rfl | rfl | rfl | rfl | rfl | rfl | rfl | rfl | rfl | rfl | rfl
  all_goals refine ⟨by simp [okD, okDs] <;> decide +kernel, ?_⟩
  all_goals first
    | rfl
    | (simp only [needsD, pairsD, p01, p10, p02, p00, p0g, pm, Option.bind_some, Option.bind_none, Option.map_some, Option.map_none]; done)
    | (simp only [needsD, pairsD, p01, p10, p02, p00, p0g, pm, Option.bind_some, Option.bind_none, Option.map_some, Option.map_none]; rfl)
theorem alike_q {a : Ad} {x y : D} {q : D → Prop} {ex : XD} (hy : okD 12 y = true) (hx : okD 50 x = true) (h : q (.bl (alikeD x y))) : ds__law_alike a [x, y] q ex := ⟨x, y, rfl, hy, hx, h⟩
theorem strOk_many : PyData.strOk ("many" : Str) = true := by decide +kernel
theorem strOk_needs : PyData.strOk ("needs" : Str) = true := by decide +kernel
theorem strOk_bad : PyData.strOk ("bad" : Str) = true := by decide +kernel
theorem strOk_round : PyData.strOk ("round" : Str) = true := by decide +kernel
theorem ref_s5 (a : Ad) {g : Int} {bad wrong : D} {k : DK} {ex : XD} (kb : kindD [a.Todo] bad = true) (nb : numD bad 0 24 = false) (ow : okD 50 wrong = true) (h : k.nx [.fz .row, .fz (.int g), .fz bad, .fz wrong]) : t__law_refused_s4 a [.fz .row, .fz (.int g), .fz bad, .fz wrong] k ex := by
  unfold t__law_refused_s4 t__law_refused_s3
  simp only [sSeq, sIf, sRet, sRetN, sNx, sBk, sCt, sSet, sDrop, sAug, sAsg, sPar, sRaise, sSetF, cOf, cLst, cCb, cOp, dOf, dTest, dOp, dUn, dChain, dNot, dNotV, dAnd, dOr, dAndV, dOrV, dIf, dTru, dVar, dC, dCons, dNil, dTup, dLst, dCall, dCb, dIsT, dFld, dProp, dMake, dMethO, dMut, dCut, dTupR, dHeard, dnC, hSl, hOf, hNil, hCons, oSome, oNone, iSeq, iRng1D, iRng2D, gNm, gTp, gC0, gN0, gSto, dYes, kI0, kI, kU, kAdd, kMul, kEq, kNe, kLt, kIs, kIn, kInS, kIx, kLen, kList, kTuple, kInt, kRep, kAppend, kPopAt, kSAdd, kTru_bl, kTru_int, kTru_non, kTru_lst, kTru_tup, kTru_dic, isCell, peek, res, ress, cellD, startC, seqD, List.map_cons, List.map_nil, List.length_cons, List.length_nil, List.cons_append, List.nil_append, List.append_nil, List.replicate_succ, List.replicate_zero, Nat.reduceSub, Nat.reduceAdd, List.getElem?_cons_zero, List.getElem?_cons_succ, List.set_cons_zero, List.set_cons_succ, Option.bind_some, Option.some.injEq, Option.isSome_some, exists_eq_left, exists_eq_left', exists_eq_right, exists_eq_right', exists_and_left, exists_and_right, exists_const, and_assoc, and_true, true_and, Bool.not_true, Bool.not_false, reduceCtorEq, Option.map_some, D.obj.injEq, D.int.injEq, D.bl.injEq, D.lst.injEq, D.tup.injEq, D.str.injEq, Cell.fz.injEq, Cell.ow.injEq, Cell.os.injEq, List.cons.injEq, bIf_t, bIf_f, if_true, if_false, ite_true, ite_false, Bool.false_eq_true, and_self, false_and, and_false, implies_true]
  refine ⟨bad, wrong, rfl, kb, ow, .inl ⟨nb, .inl ⟨rfl, _, rfl, by decide, ?_⟩⟩⟩
  refine alike_q (by simp [okD, okDs, strOk_bad, strOk_many]) (by simp [okD, okDs, strOk_bad, strOk_many]) ?_
  have : alikeD (.tup [.str "bad", .str "many", .bl true]) (.tup [.str "bad", .str "many", .bl true]) = true := by decide +kernel
  rw [this]
  exact h
theorem ref_s7 (a : Ad) {g : Int} {bad wrong : D} {k : DK} {ex : XD} (kb : kindD [a.Todo] bad = true) (nb : numD bad 0 24 = false) (h : k.nx [.fz .row, .fz (.int g), .fz bad, .fz wrong]) : t__law_refused_s6 a [.fz .row, .fz (.int g), .fz bad, .fz wrong] k ex := by
  unfold t__law_refused_s6 t__law_refused_s5
  simp only [sSeq, sIf, sRet, sRetN, sNx, sBk, sCt, sSet, sDrop, sAug, sAsg, sPar, sRaise, sSetF, cOf, cLst, cCb, cOp, dOf, dTest, dOp, dUn, dChain, dNot, dNotV, dAnd, dOr, dAndV, dOrV, dIf, dTru, dVar, dC, dCons, dNil, dTup, dLst, dCall, dCb, dIsT, dFld, dProp, dMake, dMethO, dMut, dCut, dTupR, dHeard, dnC, hSl, hOf, hNil, hCons, oSome, oNone, iSeq, iRng1D, iRng2D, gNm, gTp, gC0, gN0, gSto, dYes, kI0, kI, kU, kAdd, kMul, kEq, kNe, kLt, kIs, kIn, kInS, kIx, kLen, kList, kTuple, kInt, kRep, kAppend, kPopAt, kSAdd, kTru_bl, kTru_int, kTru_non, kTru_lst, kTru_tup, kTru_dic, isCell, peek, res, ress, cellD, startC, seqD, List.map_cons, List.map_nil, List.length_cons, List.length_nil, List.cons_append, List.nil_append, List.append_nil, List.replicate_succ, List.replicate_zero, Nat.reduceSub, Nat.reduceAdd, List.getElem?_cons_zero, List.getElem?_cons_succ, List.set_cons_zero, List.set_cons_succ, Option.bind_some, Option.some.injEq, Option.isSome_some, exists_eq_left, exists_eq_left', exists_eq_right, exists_eq_right', exists_and_left, exists_and_right, exists_const, and_assoc, and_true, true_and, Bool.not_true, Bool.not_false, reduceCtorEq, Option.map_some, D.obj.injEq, D.int.injEq, D.bl.injEq, D.lst.injEq, D.tup.injEq, D.str.injEq, Cell.fz.injEq, Cell.ow.injEq, Cell.os.injEq, List.cons.injEq, bIf_t, bIf_f, if_true, if_false, ite_true, ite_false, Bool.false_eq_true, and_self, false_and, and_false, implies_true]
  refine ⟨bad, .tup [], rfl, kb, by simp [okD, okDs], .inl ⟨nb, .inl ⟨rfl, _, rfl, by decide, ?_⟩⟩⟩
  refine alike_q (by simp [okD, okDs, strOk_bad, strOk_many]) (by simp [okD, okDs, strOk_bad, strOk_many]) ?_
  have : alikeD (.tup [.str "bad", .str "many", .bl true]) (.tup [.str "bad", .str "many", .bl true]) = true := by decide +kernel
  rw [this]
  exact h
theorem law__law_refused (a : Ad) : ∀ args q ex, ds__law_refused a args q ex → t__law_refused a (startC 4 args) { nx := fun _ => q .non, rt := fun d _ => q d } ex := by
  rintro args q ex ⟨g, rfl, h9, h24, h⟩
  unfold t__law_refused t__law_refused_s1
  simp only [sSeq, sIf, sRet, sRetN, sNx, sBk, sCt, sSet, sDrop, sAug, sAsg, sPar, sRaise, sSetF, cOf, cLst, cCb, cOp, dOf, dTest, dOp, dUn, dChain, dNot, dNotV, dAnd, dOr, dAndV, dOrV, dIf, dTru, dVar, dC, dCons, dNil, dTup, dLst, dCall, dCb, dIsT, dFld, dProp, dMake, dMethO, dMut, dCut, dTupR, dHeard, dnC, hSl, hOf, hNil, hCons, oSome, oNone, iSeq, iRng1D, iRng2D, gNm, gTp, gC0, gN0, gSto, dYes, kI0, kI, kU, kAdd, kMul, kEq, kNe, kLt, kIs, kIn, kInS, kIx, kLen, kList, kTuple, kInt, kRep, kAppend, kPopAt, kSAdd, kTru_bl, kTru_int, kTru_non, kTru_lst, kTru_tup, kTru_dic, isCell, peek, res, ress, cellD, startC, seqD, List.map_cons, List.map_nil, List.length_cons, List.length_nil, List.cons_append, List.nil_append, List.append_nil, List.replicate_succ, List.replicate_zero, Nat.reduceSub, Nat.reduceAdd, List.getElem?_cons_zero, List.getElem?_cons_succ, List.set_cons_zero, List.set_cons_succ, Option.bind_some, Option.some.injEq, Option.isSome_some, exists_eq_left, exists_eq_left', exists_eq_right, exists_eq_right', exists_and_left, exists_and_right, exists_const, and_assoc, and_true, true_and, Bool.not_true, Bool.not_false, reduceCtorEq, Option.map_some, D.obj.injEq, D.int.injEq, D.bl.injEq, D.lst.injEq, D.tup.injEq, D.str.injEq, Cell.fz.injEq, Cell.ow.injEq, Cell.os.injEq, List.cons.injEq, bIf_t, bIf_f, if_true, if_false, ite_true, ite_false, Bool.false_eq_true, and_self, false_and, and_false, implies_true, ds__law_taken]
  refine ⟨by decide, ⟨by decide, by decide, by decide⟩, by decide, by decide, fun r hr _ => ⟨by decide, ?_⟩⟩
  refine ⟨_, rfl, by simp, by simp, fun bad hb => ?_⟩
  obtain ⟨kb, nb⟩ := bad_ok a (g := g) hr bad hb
  unfold t__law_refused_s2
  simp only [sSeq, sIf, sRet, sRetN, sNx, sBk, sCt, sSet, sDrop, sAug, sAsg, sPar, sRaise, sSetF, cOf, cLst, cCb, cOp, dOf, dTest, dOp, dUn, dChain, dNot, dNotV, dAnd, dOr, dAndV, dOrV, dIf, dTru, dVar, dC, dCons, dNil, dTup, dLst, dCall, dCb, dIsT, dFld, dProp, dMake, dMethO, dMut, dCut, dTupR, dHeard, dnC, hSl, hOf, hNil, hCons, oSome, oNone, iSeq, iRng1D, iRng2D, gNm, gTp, gC0, gN0, gSto, dYes, kI0, kI, kU, kAdd, kMul, kEq, kNe, kLt, kIs, kIn, kInS, kIx, kLen, kList, kTuple, kInt, kRep, kAppend, kPopAt, kSAdd, kTru_bl, kTru_int, kTru_non, kTru_lst, kTru_tup, kTru_dic, isCell, peek, res, ress, cellD, startC, seqD, List.map_cons, List.map_nil, List.length_cons, List.length_nil, List.cons_append, List.nil_append, List.append_nil, List.replicate_succ, List.replicate_zero, Nat.reduceSub, Nat.reduceAdd, List.getElem?_cons_zero, List.getElem?_cons_succ, List.set_cons_zero, List.set_cons_succ, Option.bind_some, Option.some.injEq, Option.isSome_some, exists_eq_left, exists_eq_left', exists_eq_right, exists_eq_right', exists_and_left, exists_and_right, exists_const, and_assoc, and_true, true_and, Bool.not_true, Bool.not_false, reduceCtorEq, Option.map_some, D.obj.injEq, D.int.injEq, D.bl.injEq, D.lst.injEq, D.tup.injEq, D.str.injEq, Cell.fz.injEq, Cell.ow.injEq, Cell.os.injEq, List.cons.injEq, bIf_t, bIf_f, if_true, if_false, ite_true, ite_false, Bool.false_eq_true, and_self, false_and, and_false, implies_true]
  repeat refine ⟨by decide, ?_⟩
  refine ⟨_, rfl, by simp, by simp, fun wrong hw => ?_⟩
  obtain ⟨ow, nw⟩ := wrong_ok h9 wrong hw
  refine ref_s5 a kb nb ow ?_
  refine ref_s7 a kb nb ?_
  unfold t__law_refused_s7
  simp only [sSeq, sIf, sRet, sRetN, sNx, sBk, sCt, sSet, sDrop, sAug, sAsg, sPar, sRaise, sSetF, cOf, cLst, cCb, cOp, dOf, dTest, dOp, dUn, dChain, dNot, dNotV, dAnd, dOr, dAndV, dOrV, dIf, dTru, dVar, dC, dCons, dNil, dTup, dLst, dCall, dCb, dIsT, dFld, dProp, dMake, dMethO, dMut, dCut, dTupR, dHeard, dnC, hSl, hOf, hNil, hCons, oSome, oNone, iSeq, iRng1D, iRng2D, gNm, gTp, gC0, gN0, gSto, dYes, kI0, kI, kU, kAdd, kMul, kEq, kNe, kLt, kIs, kIn, kInS, kIx, kLen, kList, kTuple, kInt, kRep, kAppend, kPopAt, kSAdd, kTru_bl, kTru_int, kTru_non, kTru_lst, kTru_tup, kTru_dic, isCell, peek, res, ress, cellD, startC, seqD, List.map_cons, List.map_nil, List.length_cons, List.length_nil, List.cons_append, List.nil_append, List.append_nil, List.replicate_succ, List.replicate_zero, Nat.reduceSub, Nat.reduceAdd, List.getElem?_cons_zero, List.getElem?_cons_succ, List.set_cons_zero, List.set_cons_succ, Option.bind_some, Option.some.injEq, Option.isSome_some, exists_eq_left, exists_eq_left', exists_eq_right, exists_eq_right', exists_and_left, exists_and_right, exists_const, and_assoc, and_true, true_and, Bool.not_true, Bool.not_false, reduceCtorEq, Option.map_some, D.obj.injEq, D.int.injEq, D.bl.injEq, D.lst.injEq, D.tup.injEq, D.str.injEq, Cell.fz.injEq, Cell.ow.injEq, Cell.os.injEq, List.cons.injEq, bIf_t, bIf_f, if_true, if_false, ite_true, ite_false, Bool.false_eq_true, and_self, false_and, and_false, implies_true]
  refine ⟨.int g, wrong, rfl, rfl, ow, .inr ⟨g, rfl, by omega, h24, .inl ⟨nw, .inl ⟨rfl, _, rfl, by decide, ?_⟩⟩⟩⟩
  refine alike_q (by simp [okD, okDs, strOk_bad, strOk_needs]) (by simp [okD, okDs, strOk_bad, strOk_needs]) ?_
  have : alikeD (.tup [.str "bad", .str "needs", .bl true]) (.tup [.str "bad", .str "needs", .bl true]) = true := by decide +kernel
  rw [this]
  exact h
end D7
namespace D7
open PySem PySem.Spec PyProof.Rows L2
/-- the best of the rounds that begin below b -/
def BestTo (ps : List Pr) (b : Int) (c : List Int) : Prop := (c = [] ∧ ∀ c' h, Round ps c' → c'.head? = some h → ¬ h < b) ∨ (Round ps c ∧ (∃ h, c.head? = some h ∧ h < b) ∧ ∀ c' h, Round ps c' → c'.head? = some h → h < b → Before c c')
theorem lexLt_head {x y : Int} {xs ys : List Int} (h : y < x) : HT.lexLt (x :: xs) (y :: ys) = false := by
  rw [HT.lexLt_cons, if_neg (by omega)]
  exact decide_eq_false (by omega)
theorem BestTo.keep {ps : List Pr} {b : Int} {c f : List Int} (hb : BestTo ps b c) (hf : ShortFrom ps b f) (h : f = [] ∨ (c ≠ [] ∧ c.length ≤ f.length)) : BestTo ps (b + 1) c := by
  have nb : f = [] → ∀ c' h, Round ps c' → c'.head? = some h → h < b + 1 → h < b := fun e c' x hr hx hl => by
    rcases hf with ⟨_, no⟩ | ⟨hr2, _⟩
    · have : x ≠ b := fun z => by subst z; exact no c' hr hx
      omega
    · exact absurd e hr2.ne
  rcases h with e | ⟨ne, hl⟩
  · rcases hb with ⟨e2, no⟩ | ⟨hr, ⟨h, hh, hlt⟩, m⟩
    · exact .inl ⟨e2, fun c' x hr hx hl => no c' x hr hx (nb e c' x hr hx hl)⟩
    · exact .inr ⟨hr, ⟨h, hh, by omega⟩, fun c' x hr' hx hl => m c' x hr' hx (nb e c' x hr' hx hl)⟩
  · rcases hb with ⟨e2, _⟩ | ⟨hr, ⟨h, hh, hlt⟩, m⟩
    · exact absurd e2 ne
    · refine .inr ⟨hr, ⟨h, hh, by omega⟩, fun c' x hr' hx hl2 => ?_⟩
      by_cases hxb : x < b
      · exact m c' x hr' hx hxb
      · have e : x = b := by omega
        subst e
        rcases hf with ⟨e3, no⟩ | ⟨hrf, _, mf⟩
        · exact absurd hx (no c' hr')
        · have h1 := (mf c' hr' hx).le
          by_cases he : c.length = c'.length
          · refine .inr ⟨he, ?_⟩
            cases c with
            | nil => exact absurd rfl ne
            | cons y c =>
              cases c' with
              | nil => exact absurd rfl hr'.ne
              | cons z c' =>
                cases hh; cases hx
                exact lexLt_head hlt
          · exact .inl (by omega)
theorem BestTo.take {ps : List Pr} {b : Int} {c f : List Int} (hb : BestTo ps b c) (hf : ShortFrom ps b f) (ne : f ≠ []) (h : c = [] ∨ f.length < c.length) : BestTo ps (b + 1) f := by
  rcases hf with ⟨e, _⟩ | ⟨hr, hh, m⟩
  · exact absurd e ne
  · refine .inr ⟨hr, ⟨b, hh, by omega⟩, fun c' x hr' hx hl => ?_⟩
    by_cases e : x = b
    · subst e; exact m c' hr' hx
    · have hxb : x < b := by omega
      rcases hb with ⟨_, no⟩ | ⟨hr2, _, m2⟩
      · exact absurd hxb (no c' x hr' hx)
      · rcases h with h | h
        · exact absurd h hr2.ne
        · have := (m2 c' x hr' hx hxb).le
          exact .inl (by omega)
theorem BestTo.done {ps : List Pr} {n : Int} {c : List Int} (s : Sound n ps) (hb : BestTo ps n c) : FirstCyc ps c := by
  have hd : ∀ c', Round ps c' → ∃ h, c'.head? = some h ∧ h < n := fun c' hr => by
    cases c' with
    | nil => exact absurd rfl hr.ne
    | cons x r => exact ⟨x, rfl, (hr.mem s x List.mem_cons_self).2⟩
  rcases hb with ⟨e, no⟩ | ⟨hr, _, m⟩
  · exact .inl ⟨e, fun c' hr => by obtain ⟨h, h1, h2⟩ := hd c' hr; exact no c' h hr h1 h2⟩
  · exact .inr ⟨hr, fun c' hr' => by obtain ⟨h, h1, h2⟩ := hd c' hr'; exact m c' h hr' h1 h2⟩
theorem BestTo.start {ps : List Pr} {n : Int} (s : Sound n ps) : BestTo ps 0 [] := .inl ⟨rfl, fun c' x hr hx hl => by
  cases c' with
  | nil => exact absurd rfl hr.ne
  | cons y r =>
    obtain rfl : y = x := by simpa using hx
    have := (hr.mem s y List.mem_cons_self).1
    omega⟩
theorem isEmpty_map {l : List Int} : (l.map D.int).isEmpty = l.isEmpty := by cases l <;> rfl
theorem loop_first {a : Ad} {n : Int} {ps : List Pr} {k : DK} {ex : XD} (s : Sound n ps) (h24 : n ≤ 24) : ∀ (m : Nat) (b : Int) (c : List Int) (y z : Cell), 0 ≤ b → b + m = n → BestTo ps b c → (∀ c y z, BestTo ps n c → k.nx [.fz (.int n), .fz (nD ps), .fz (iD c), y, z]) →
    forW (gNm 3) (t_first_cycle_b1 a) k ex ((rgI b m).map .int) [.fz (.int n), .fz (nD ps), .fz (iD c), y, z]
  | 0, b, c, y, z, h0, e, hb, h => by
    have : b = n := by omega
    subst this
    exact h c y z hb
  | m + 1, b, c, y, z, h0, e, hb, h => by
    have er : rgI b (m + 1) = b :: rgI (b + 1) m := by
      unfold rgI
      rw [List.range_succ_eq_map, List.map_cons, List.map_map]
      simp only [Int.natCast_zero, Int.add_zero, List.cons.injEq, true_and]
      refine List.map_congr_left fun k _ => ?_
      simp only [Function.comp]
      omega
    rw [er]
    have ih := fun (c : List Int) (z : Cell) (hb : BestTo ps (b + 1) c) => loop_first (a := a) (k := k) (ex := ex) s h24 m (b + 1) c (.fz (.int b)) z (by omega) (by omega) hb h
    show gNm 3 _ _ _ _
    generalize forW (gNm 3) (t_first_cycle_b1 a) k ex ((rgI (b + 1) m).map .int) = F at ih ⊢
    unfold t_first_cycle_b1
    simp only [sSeq, sIf, sRet, sRetN, sNx, sBk, sCt, sSet, sDrop, sAug, sAsg, sPar, sRaise, sSetF, cOf, cLst, cCb, cOp, dOf, dTest, dOp, dUn, dChain, dNot, dNotV, dAnd, dOr, dAndV, dOrV, dIf, dTru, dVar, dC, dCons, dNil, dTup, dLst, dCall, dCb, dIsT, dFld, dProp, dMake, dMethO, dMut, dCut, dTupR, dHeard, dnC, hSl, hOf, hNil, hCons, oSome, oNone, iSeq, iRng1D, iRng2D, gNm, gTp, gC0, gN0, gSto, dYes, kI0, kI, kU, kAdd, kMul, kEq, kNe, kLt, kIs, kIn, kInS, kIx, kLen, kList, kTuple, kInt, kRep, kAppend, kPopAt, kSAdd, kTru_bl, kTru_int, kTru_non, kTru_lst, kTru_tup, kTru_dic, isCell, peek, res, ress, cellD, startC, seqD, List.map_cons, List.map_nil, List.length_cons, List.length_nil, List.cons_append, List.nil_append, List.append_nil, List.replicate_succ, List.replicate_zero, Nat.reduceSub, Nat.reduceAdd, List.getElem?_cons_zero, List.getElem?_cons_succ, List.set_cons_zero, List.set_cons_succ, Option.bind_some, Option.some.injEq, Option.isSome_some, exists_eq_left, exists_eq_left', exists_eq_right, exists_eq_right', exists_and_left, exists_and_right, exists_const, and_assoc, and_true, true_and, Bool.not_true, Bool.not_false, reduceCtorEq, Option.map_some, D.obj.injEq, D.int.injEq, D.bl.injEq, D.lst.injEq, D.tup.injEq, D.str.injEq, Cell.fz.injEq, Cell.ow.injEq, Cell.os.injEq, List.cons.injEq, bIf_t, bIf_f, if_true, if_false, ite_true, ite_false, Bool.false_eq_true, and_self, false_and, and_false, implies_true, ds_shortest_round]
    refine ⟨ps, rfl, s, h24, h0, by omega, fun f hf => ?_⟩
    simp only [iD, sSeq, sIf, sRet, sRetN, sNx, sBk, sCt, sSet, sDrop, sAug, sAsg, sPar, sRaise, sSetF, cOf, cLst, cCb, cOp, dOf, dTest, dOp, dUn, dChain, dNot, dNotV, dAnd, dOr, dAndV, dOrV, dIf, dTru, dVar, dC, dCons, dNil, dTup, dLst, dCall, dCb, dIsT, dFld, dProp, dMake, dMethO, dMut, dCut, dTupR, dHeard, dnC, hSl, hOf, hNil, hCons, oSome, oNone, iSeq, iRng1D, iRng2D, gNm, gTp, gC0, gN0, gSto, dYes, kI0, kI, kU, kAdd, kMul, kEq, kNe, kLt, kIs, kIn, kInS, kIx, kLen, kList, kTuple, kInt, kRep, kAppend, kPopAt, kSAdd, kTru_bl, kTru_int, kTru_non, kTru_lst, kTru_tup, kTru_dic, isCell, peek, res, ress, cellD, startC, seqD, List.map_cons, List.map_nil, List.length_cons, List.length_nil, List.cons_append, List.nil_append, List.append_nil, List.replicate_succ, List.replicate_zero, Nat.reduceSub, Nat.reduceAdd, List.getElem?_cons_zero, List.getElem?_cons_succ, List.set_cons_zero, List.set_cons_succ, Option.bind_some, Option.some.injEq, Option.isSome_some, exists_eq_left, exists_eq_left', exists_eq_right, exists_eq_right', exists_and_left, exists_and_right, exists_const, and_assoc, and_true, true_and, Bool.not_true, Bool.not_false, reduceCtorEq, Option.map_some, D.obj.injEq, D.int.injEq, D.bl.injEq, D.lst.injEq, D.tup.injEq, D.str.injEq, Cell.fz.injEq, Cell.ow.injEq, Cell.os.injEq, List.cons.injEq, bIf_t, bIf_f, if_true, if_false, ite_true, ite_false, Bool.false_eq_true, and_self, false_and, and_false, implies_true, isEmpty_map, List.length_map]
    have keep : ∀ (h : f = [] ∨ (c ≠ [] ∧ c.length ≤ f.length)), F [.fz (.int n), .fz (nD ps), .fz (.tup (c.map .int)), .fz (.int b), .fz (.tup (f.map .int))] := fun h => ih c _ (hb.keep hf h)
    refine bIf_of (fun e1 => bIf_of (fun e2 => ?_) fun e2 => ?_) fun e1 => ?_
    · have ne : f ≠ [] := by intro z; simp [z] at e1
      have ec : c = [] := by cases c with
        | nil => rfl
        | cons _ _ => simp at e2
      exact ih f _ (hb.take hf ne (.inl ec))
    · have ne : f ≠ [] := by intro z; simp [z] at e1
      have nc : c ≠ [] := by intro z; simp [z] at e2
      intro _ _
      refine bIf_of (fun e3 => ?_) fun e3 => ?_
      · have := of_decide_eq_true e3
        exact ih f _ (hb.take hf ne (.inr (by omega)))
      · have := of_decide_eq_false e3
        exact keep (.inr ⟨nc, by omega⟩)
    · have : f = [] := by cases f with
        | nil => rfl
        | cons _ _ => simp at e1
      exact keep (.inl this)
theorem law_first_cycle (a : Ad) : ∀ args q ex, ds_first_cycle a args q ex → t_first_cycle a (startC 5 args) { nx := fun _ => q .non, rt := fun d _ => q d } ex := by
  rintro args q ex ⟨n, ps, rfl, s, h0, h24, h⟩
  unfold t_first_cycle
  have e2 : (2 : Int) ^ 62 = 4611686018427387904 := by decide
  simp only [sSeq, sIf, sRet, sRetN, sNx, sBk, sCt, sSet, sDrop, sAug, sAsg, sPar, sRaise, sSetF, cOf, cLst, cCb, cOp, dOf, dTest, dOp, dUn, dChain, dNot, dNotV, dAnd, dOr, dAndV, dOrV, dIf, dTru, dVar, dC, dCons, dNil, dTup, dLst, dCall, dCb, dIsT, dFld, dProp, dMake, dMethO, dMut, dCut, dTupR, dHeard, dnC, hSl, hOf, hNil, hCons, oSome, oNone, iSeq, iRng1D, iRng2D, gNm, gTp, gC0, gN0, gSto, dYes, kI0, kI, kU, kAdd, kMul, kEq, kNe, kLt, kIs, kIn, kInS, kIx, kLen, kList, kTuple, kInt, kRep, kAppend, kPopAt, kSAdd, kTru_bl, kTru_int, kTru_non, kTru_lst, kTru_tup, kTru_dic, isCell, peek, res, ress, cellD, startC, seqD, List.map_cons, List.map_nil, List.length_cons, List.length_nil, List.cons_append, List.nil_append, List.append_nil, List.replicate_succ, List.replicate_zero, Nat.reduceSub, Nat.reduceAdd, List.getElem?_cons_zero, List.getElem?_cons_succ, List.set_cons_zero, List.set_cons_succ, Option.bind_some, Option.some.injEq, Option.isSome_some, exists_eq_left, exists_eq_left', exists_eq_right, exists_eq_right', exists_and_left, exists_and_right, exists_const, and_assoc, and_true, true_and, Bool.not_true, Bool.not_false, reduceCtorEq, Option.map_some, D.obj.injEq, D.int.injEq, D.bl.injEq, D.lst.injEq, D.tup.injEq, D.str.injEq, Cell.fz.injEq, Cell.ow.injEq, Cell.os.injEq, List.cons.injEq, bIf_t, bIf_f, if_true, if_false, ite_true, ite_false, Bool.false_eq_true, and_self, false_and, and_false, implies_true, sFor, rangeD_eq]
  refine ⟨Nat.zero_le _, by omega, by omega, ?_⟩
  refine loop_first s h24 n.toNat 0 [] _ _ (by omega) (by omega) (.start s) fun c y z hb => ?_
  simp only [sSeq, sIf, sRet, sRetN, sNx, sBk, sCt, sSet, sDrop, sAug, sAsg, sPar, sRaise, sSetF, cOf, cLst, cCb, cOp, dOf, dTest, dOp, dUn, dChain, dNot, dNotV, dAnd, dOr, dAndV, dOrV, dIf, dTru, dVar, dC, dCons, dNil, dTup, dLst, dCall, dCb, dIsT, dFld, dProp, dMake, dMethO, dMut, dCut, dTupR, dHeard, dnC, hSl, hOf, hNil, hCons, oSome, oNone, iSeq, iRng1D, iRng2D, gNm, gTp, gC0, gN0, gSto, dYes, kI0, kI, kU, kAdd, kMul, kEq, kNe, kLt, kIs, kIn, kInS, kIx, kLen, kList, kTuple, kInt, kRep, kAppend, kPopAt, kSAdd, kTru_bl, kTru_int, kTru_non, kTru_lst, kTru_tup, kTru_dic, isCell, peek, res, ress, cellD, startC, seqD, List.map_cons, List.map_nil, List.length_cons, List.length_nil, List.cons_append, List.nil_append, List.append_nil, List.replicate_succ, List.replicate_zero, Nat.reduceSub, Nat.reduceAdd, List.getElem?_cons_zero, List.getElem?_cons_succ, List.set_cons_zero, List.set_cons_succ, Option.bind_some, Option.some.injEq, Option.isSome_some, exists_eq_left, exists_eq_left', exists_eq_right, exists_eq_right', exists_and_left, exists_and_right, exists_const, and_assoc, and_true, true_and, Bool.not_true, Bool.not_false, reduceCtorEq, Option.map_some, D.obj.injEq, D.int.injEq, D.bl.injEq, D.lst.injEq, D.tup.injEq, D.str.injEq, Cell.fz.injEq, Cell.ow.injEq, Cell.os.injEq, List.cons.injEq, bIf_t, bIf_f, if_true, if_false, ite_true, ite_false, Bool.false_eq_true, and_self, false_and, and_false, implies_true]
  exact h c (hb.done s)
end D7
/-! ways from b, level by level, in plain words -/
namespace D7
theorem lex_trans {a b c : List Int} (h : HT.lexLt a b = true) (k : HT.lexLt b c = true) : HT.lexLt a c = true := by
  rw [lexLt_iff] at *
  exact List.lt_trans h k
theorem lex_le_trans {a b c : List Int} (h : HT.lexLt b a = false) (k : HT.lexLt c b = false) : HT.lexLt c a = false := by
  have f : ∀ x y : List Int, HT.lexLt x y = false ↔ y ≤ x := fun x y => by
    rw [← Bool.not_eq_true, lexLt_iff, List.not_lt]
  rw [f] at *
  exact List.le_trans h k
theorem lex_irr (a : List Int) : HT.lexLt a a = false := by
  cases h : HT.lexLt a a with
  | false => rfl
  | true => exact absurd ((lexLt_iff a a).mp h) (List.lt_irrefl a)
theorem lex_asym {a b : List Int} (h : HT.lexLt a b = true) : HT.lexLt b a = false := by
  cases k : HT.lexLt b a with
  | false => rfl
  | true =>
    have := lex_trans h k
    rw [lex_irr] at this
    cases this
theorem lex_tri : ∀ {a b : List Int}, a.length = b.length → HT.lexLt b a = false → a = b ∨ HT.lexLt a b = true
  | [], [], _, _ => .inl rfl
  | [], _ :: _, h, _ => by simp at h
  | _ :: _, [], h, _ => by simp at h
  | x :: a, y :: b, h, k => by
    rw [HT.lexLt_cons] at k ⊢
    by_cases e : x = y
    · subst e
      rw [if_pos rfl] at k ⊢
      rcases lex_tri (by simpa using h) k with e | e
      · exact .inl (by rw [e])
      · exact .inr e
    · rw [if_neg (Ne.symm e)] at k
      rw [if_neg e]
      have := of_decide_eq_false k
      exact .inr (decide_eq_true (by omega))
theorem lex_app : ∀ {a b : List Int} (x y : List Int), a.length = b.length → HT.lexLt a b = true → HT.lexLt (a ++ x) (b ++ y) = true
  | [], [], _, _, _, h => by cases h
  | [], _ :: _, _, _, h, _ => by simp at h
  | _ :: _, [], _, _, h, _ => by simp at h
  | u :: a, v :: b, x, y, h, k => by
    rw [List.cons_append, List.cons_append]
    rw [HT.lexLt_cons] at k ⊢
    by_cases e : u = v
    · rw [if_pos e] at k ⊢
      exact lex_app x y (by simpa using h) k
    · rw [if_neg e] at k ⊢
      exact k
theorem lex_snoc : ∀ (a : List Int) {x y : Int}, x < y → HT.lexLt (a ++ [x]) (a ++ [y]) = true
  | [], x, y, h => by
    show HT.lexLt [x] [y] = true
    rw [HT.lexLt_cons, if_neg (by omega)]
    exact decide_eq_true h
  | u :: a, x, y, h => by
    rw [List.cons_append, List.cons_append, HT.lexLt_cons, if_pos rfl]
    exact lex_snoc a h
theorem lex_le_app {a b : List Int} (x : List Int) (h : a.length = b.length) (k : HT.lexLt b a = false) : HT.lexLt (b ++ x) (a ++ x) = false := by
  rcases lex_tri h k with e | e
  · rw [e]; exact lex_irr _
  · exact lex_asym (lex_app x x h e)
/-! ### one level -/
def lat (ps : List Pr) (x : Int) : List Int := (ps.filter fun p => p.1 == x).map (·.2)
theorem mem_lat {ps : List Pr} {x y : Int} : y ∈ lat ps x ↔ (x, y) ∈ ps := by
  unfold lat
  rw [List.mem_map]
  constructor
  · rintro ⟨⟨u, v⟩, h, rfl⟩
    obtain ⟨h1, h2⟩ := List.mem_filter.mp h
    have : u = x := by simpa using h2
    subst this
    exact h1
  · exact fun h => ⟨(x, y), List.mem_filter.mpr ⟨h, by simp⟩, rfl⟩
theorem ltP_trans {p q r : Pr} (h : ltP p q = true) (k : ltP q r = true) : ltP p r = true := lex_trans h k
theorem chain_pw : ∀ {ps : List Pr}, chainB ps = true → ps.Pairwise (fun p q => ltP p q = true)
  | [], _ => .nil
  | [p], _ => List.pairwise_singleton ..
  | p :: q :: r, h => by
    have h : ltP p q = true ∧ chainB (q :: r) = true := by simpa [chainB] using h
    have ih := chain_pw h.2
    refine List.pairwise_cons.mpr ⟨fun z hz => ?_, ih⟩
    rcases List.mem_cons.mp hz with rfl | hz
    · exact h.1
    · exact ltP_trans h.1 ((List.pairwise_cons.mp ih).1 z hz)
theorem lat_sorted {ps : List Pr} (h : chainB ps = true) (x : Int) : (lat ps x).Pairwise (· < ·) := by
  unfold lat
  rw [List.pairwise_map]
  refine List.Pairwise.imp_of_mem (fun {p q} hp hq hl => ?_) ((chain_pw h).filter _)
  have e1 : p.1 = x := by simpa using (List.mem_filter.mp hp).2
  have e2 : q.1 = x := by simpa using (List.mem_filter.mp hq).2
  unfold ltP at hl
  rw [HT.lexLt_cons, if_pos (e1.trans e2.symm), HT.lexLt_cons] at hl
  by_cases e : p.2 = q.2
  · rw [if_pos e] at hl; cases hl
  · rw [if_neg e] at hl; exact of_decide_eq_true hl
/-- what is seen, the rows of the next level -/
abbrev Lv := List Int × List (List Int)
def stepC (st : Lv) (r : List Int) (o : Int) : Lv := if o ∈ st.1 then st else (st.1 ++ [o], st.2 ++ [r ++ [o]])
def lastI (r : List Int) : Int := r.getLast?.getD 0
def inF (r : List Int) (os : List Int) (st : Lv) : Lv := os.foldl (fun st o => stepC st r o) st
def outF (ps : List Pr) (rs : List (List Int)) (st : Lv) : Lv := rs.foldl (fun st r => inF r (lat ps (lastI r)) st) st
theorem lastI_snoc (r : List Int) (o : Int) : lastI (r ++ [o]) = o := by unfold lastI; simp
structure Ded (V0 : List Int) (cs : List (List Int)) (st : Lv) : Prop where
  sub : st.2.Sublist cs
  vs : st.1 = V0 ++ st.2.map lastI
  all : ∀ c ∈ cs, lastI c ∈ V0 ∨ ∃ c' ∈ st.2, lastI c' = lastI c ∧ HT.lexLt c c' = false
  nd : st.1.Nodup
theorem Ded.step {V0 : List Int} {cs : List (List Int)} {st : Lv} {r : List Int} {o : Int} (d : Ded V0 cs st) (h : ∀ c ∈ cs, HT.lexLt c (r ++ [o]) = true) : Ded V0 (cs ++ [r ++ [o]]) (stepC st r o) := by
  unfold stepC
  by_cases ho : o ∈ st.1
  · rw [if_pos ho]
    refine ⟨d.sub.trans (List.sublist_append_left ..), d.vs, fun c hc => ?_, d.nd⟩
    rcases List.mem_append.mp hc with hc | hc
    · exact d.all c hc
    · obtain rfl := List.mem_singleton.mp hc
      rw [lastI_snoc]
      rw [d.vs] at ho
      rcases List.mem_append.mp ho with ho | ho
      · exact .inl ho
      · obtain ⟨c', h1, h2⟩ := List.mem_map.mp ho
        exact .inr ⟨c', h1, h2, lex_asym (h c' (d.sub.subset h1))⟩
  · rw [if_neg ho]
    refine ⟨d.sub.append (List.Sublist.refl _), by simp only [List.map_append, List.map_cons, List.map_nil, lastI_snoc]; rw [d.vs, List.append_assoc], fun c hc => ?_, ?_⟩
    · rcases List.mem_append.mp hc with hc | hc
      · rcases d.all c hc with h1 | ⟨c', h1, h2⟩
        · exact .inl h1
        · exact .inr ⟨c', List.mem_append_left _ h1, h2⟩
      · obtain rfl := List.mem_singleton.mp hc
        exact .inr ⟨_, List.mem_append_right _ List.mem_cons_self, rfl, lex_irr _⟩
    · refine List.nodup_append.mpr ⟨d.nd, by simp, fun x hx y hy e => ?_⟩
      obtain rfl := List.mem_singleton.mp hy
      exact ho (e ▸ hx)
theorem Ded.inner {V0 : List Int} {r : List Int} : ∀ {os : List Int} {cs : List (List Int)} {st : Lv}, Ded V0 cs st → os.Pairwise (· < ·) → (∀ c ∈ cs, ∀ o ∈ os, HT.lexLt c (r ++ [o]) = true) → Ded V0 (cs ++ os.map fun o => r ++ [o]) (inF r os st)
  | [], cs, st, d, _, _ => by simpa [inF] using d
  | o :: os, cs, st, d, pw, h => by
    obtain ⟨p1, p2⟩ := List.pairwise_cons.mp pw
    have d1 := d.step (r := r) (o := o) fun c hc => h c hc o List.mem_cons_self
    have := Ded.inner (os := os) d1 p2 fun c hc x hx => by
      rcases List.mem_append.mp hc with hc | hc
      · exact h c hc x (List.mem_cons_of_mem _ hx)
      · obtain rfl := List.mem_singleton.mp hc
        exact lex_snoc r (p1 x hx)
    simpa [inF, List.append_assoc] using this
def cands (ps : List Pr) (rs : List (List Int)) : List (List Int) := rs.flatMap fun r => (lat ps (lastI r)).map fun o => r ++ [o]
theorem Ded.outer {ps : List Pr} {V0 : List Int} {d : Nat} (hc : chainB ps = true) : ∀ {rs : List (List Int)} {cs : List (List Int)} {st : Lv}, Ded V0 cs st → rs.Pairwise (fun x y => HT.lexLt x y = true) → (∀ r ∈ rs, r.length = d) → (∀ c ∈ cs, ∀ r ∈ rs, ∀ o, HT.lexLt c (r ++ [o]) = true) → Ded V0 (cs ++ cands ps rs) (outF ps rs st)
  | [], cs, st, d, _, _, _ => by simpa [outF, cands] using d
  | r :: rs, cs, st, dd, pw, hl, h => by
    obtain ⟨p1, p2⟩ := List.pairwise_cons.mp pw
    have d1 := dd.inner (r := r) (lat_sorted hc (lastI r)) fun c hc o _ => h c hc r List.mem_cons_self o
    have := Ded.outer hc (rs := rs) d1 p2 (fun x hx => hl x (List.mem_cons_of_mem _ hx)) fun c hcc x hx o => by
      rcases List.mem_append.mp hcc with hcc | hcc
      · exact h c hcc x (List.mem_cons_of_mem _ hx) o
      · obtain ⟨y, _, rfl⟩ := List.mem_map.mp hcc
        exact lex_app _ _ ((hl r List.mem_cons_self).trans (hl x (List.mem_cons_of_mem _ hx)).symm) (p1 x hx)
    simpa [outF, cands, List.append_assoc] using this
theorem cands_sorted {ps : List Pr} {d : Nat} (hc : chainB ps = true) : ∀ {rs : List (List Int)}, rs.Pairwise (fun x y => HT.lexLt x y = true) → (∀ r ∈ rs, r.length = d) → (cands ps rs).Pairwise fun x y => HT.lexLt x y = true
  | [], _, _ => .nil
  | r :: rs, pw, hl => by
    obtain ⟨p1, p2⟩ := List.pairwise_cons.mp pw
    have ih := cands_sorted hc p2 fun x hx => hl x (List.mem_cons_of_mem _ hx)
    unfold cands at ih ⊢
    rw [List.flatMap_cons]
    refine List.pairwise_append.mpr ⟨?_, ih, fun x hx y hy => ?_⟩
    · rw [List.pairwise_map]
      exact (lat_sorted hc _).imp fun h => lex_snoc r h
    · obtain ⟨o, _, rfl⟩ := List.mem_map.mp hx
      obtain ⟨r', hr', hy⟩ := List.mem_flatMap.mp hy
      obtain ⟨o', _, rfl⟩ := List.mem_map.mp hy
      exact lex_app _ _ ((hl r List.mem_cons_self).trans (hl r' (List.mem_cons_of_mem _ hr')).symm) (p1 r' hr')
/-! ### the levels -/
structure Wk (ps : List Pr) (b : Int) (w : List Int) : Prop where
  way : Way ps w
  hd : w.head? = some b
structure Lev (n : Int) (ps : List Pr) (b : Int) (d : Nat) (rs : List (List Int)) (V : List Int) : Prop where
  wk : ∀ r ∈ rs, Wk ps b r ∧ r.length = d + 1
  so : rs.Pairwise fun x y => HT.lexLt x y = true
  al : ∀ w, Wk ps b w → w.length = d + 1 → (∃ r ∈ rs, lastI r = lastI w ∧ HT.lexLt w r = false) ∨ ∃ w', Wk ps b w' ∧ w'.length < d + 1 ∧ lastI w' = lastI w
  no : ∀ c, Round ps c → c.head? = some b → d + 1 ≤ c.length
  nd : V.Nodup
  inV : ∀ v ∈ V, 0 ≤ v ∧ v < n
  wV : ∀ v ∈ V, ∃ w, Wk ps b w ∧ w.length ≤ d + 1 ∧ lastI w = v
  rV : ∀ r ∈ rs, lastI r ∈ V
  dV : rs ≠ [] → d + 1 ≤ V.length
theorem Wk.ne {ps : List Pr} {b : Int} {w : List Int} (h : Wk ps b w) : w ≠ [] := fun e => by
  have := h.hd
  rw [e] at this
  cases this
theorem lastI_last {w : List Int} (h : w ≠ []) : w.getLast? = some (lastI w) := by
  unfold lastI
  rw [List.getLast?_eq_some_getLast h]
  rfl
theorem Wk.snoc {ps : List Pr} {b o : Int} {w : List Int} (h : Wk ps b w) (e : (lastI w, o) ∈ ps) : Wk ps b (w ++ [o]) := by
  refine ⟨way_app.mpr ⟨h.way, trivial, fun x y hx hy => ?_⟩, ?_⟩
  · rw [lastI_last h.ne] at hx
    cases hx; cases hy
    exact e
  · rw [List.head?_append, h.hd]; rfl
theorem Wk.round {ps : List Pr} {b : Int} {w : List Int} (h : Wk ps b w) (e : (lastI w, b) ∈ ps) : Round ps w := ⟨h.ne, h.way, fun x y hx hy => by
  rw [lastI_last h.ne] at hx
  rw [h.hd] at hy
  cases hx; cases hy
  exact e⟩
theorem round_wk {ps : List Pr} {b : Int} {c : List Int} (h : Round ps c) (hb : c.head? = some b) : Wk ps b c ∧ (lastI c, b) ∈ ps := ⟨⟨h.way, hb⟩, h.back _ _ (lastI_last h.ne) hb⟩
theorem Lev.start {n : Int} {ps : List Pr} {b : Int} (s : Sound n ps) (h0 : 0 ≤ b) (h1 : b < n) : Lev n ps b 0 [[b]] [b] where
  wk := fun r hr => by
    obtain rfl := List.mem_singleton.mp hr
    exact ⟨⟨trivial, rfl⟩, rfl⟩
  so := List.pairwise_singleton ..
  al := fun w hw hl => .inl ⟨[b], List.mem_cons_self, by
    match w, hw, hl with
    | [x], hw, _ =>
      have : x = b := by simpa using hw.hd
      subst this
      exact ⟨rfl, lex_irr _⟩⟩
  no := fun c hr _ => by
    have := hr.two s
    omega
  nd := by simp
  inV := fun v hv => by
    obtain rfl := List.mem_singleton.mp hv
    exact ⟨h0, h1⟩
  wV := fun v hv => by
    obtain rfl := List.mem_singleton.mp hv
    exact ⟨[v], ⟨trivial, rfl⟩, Nat.le_refl _, rfl⟩
  rV := fun r hr => by
    obtain rfl := List.mem_singleton.mp hr
    exact List.mem_cons_self
  dV := fun _ => Nat.le_refl _
theorem head_app {y : List Int} : ∀ (x : List Int), x ≠ [] → (x ++ y).head? = x.head?
  | [], h => absurd rfl h
  | _ :: _, _ => rfl
theorem last_app {y : List Int} (x : List Int) (h : y ≠ []) : (x ++ y).getLast? = y.getLast? := by
  rw [List.getLast?_append, List.getLast?_eq_some_getLast h]
  rfl
theorem split_last {w : List Int} {d : Nat} (h : w.length = d + 2) : ∃ u v, w = u ++ [v] ∧ u.length = d + 1 := by
  have ne : w ≠ [] := fun e => by rw [e] at h; cases h
  exact ⟨w.dropLast, w.getLast ne, (List.dropLast_concat_getLast ne).symm, by rw [List.length_dropLast]; omega⟩
theorem wk_front {ps : List Pr} {b v : Int} {u : List Int} (h : Wk ps b (u ++ [v])) (ne : u ≠ []) : Wk ps b u ∧ (lastI u, v) ∈ ps := by
  obtain ⟨h1, _, h3⟩ := way_app.mp h.way
  refine ⟨⟨h1, ?_⟩, h3 _ _ (lastI_last ne) rfl⟩
  have := h.hd
  rw [head_app _ ne] at this
  exact this
theorem outF_ded {n : Int} {ps : List Pr} {b : Int} {d : Nat} {rs : List (List Int)} {V : List Int} (s : Sound n ps) (l : Lev n ps b d rs V) : Ded V (cands ps rs) (outF ps rs (V, [])) := by
  have d0 : Ded V [] (V, []) := ⟨List.Sublist.refl _, by simp, nofun, l.nd⟩
  have := d0.outer s.ch l.so (fun r hr => (l.wk r hr).2) nofun
  simpa using this
theorem Lev.next {n : Int} {ps : List Pr} {b : Int} {d : Nat} {rs : List (List Int)} {V : List Int} (s : Sound n ps) (l : Lev n ps b d rs V) (nb : ∀ r ∈ rs, b ∉ lat ps (lastI r)) : Lev n ps b (d + 1) (outF ps rs (V, [])).2 (outF ps rs (V, [])).1 := by
  have D := outF_ded s l
  have cw : ∀ c ∈ cands ps rs, ∃ r ∈ rs, ∃ o, (lastI r, o) ∈ ps ∧ c = r ++ [o] := fun c hc => by
    obtain ⟨r, hr, hc⟩ := List.mem_flatMap.mp hc
    obtain ⟨o, ho, rfl⟩ := List.mem_map.mp hc
    exact ⟨r, hr, o, mem_lat.mp ho, rfl⟩
  refine ⟨fun r hr => ?_, (cands_sorted s.ch l.so fun r hr => (l.wk r hr).2).sublist D.sub, fun w hw hl => ?_, fun c hr hb => ?_, D.nd, fun v hv => ?_, fun v hv => ?_, fun r hr => ?_, fun hne => ?_⟩
  · obtain ⟨r0, h0, o, ho, rfl⟩ := cw r (D.sub.subset hr)
    obtain ⟨w1, w2⟩ := l.wk r0 h0
    exact ⟨w1.snoc ho, by rw [List.length_append, w2]; rfl⟩
  · obtain ⟨u, v, rfl, hu⟩ := split_last hl
    have une : u ≠ [] := fun e => by rw [e] at hu; cases hu
    obtain ⟨wu, e⟩ := wk_front hw une
    rw [lastI_snoc]
    rcases l.al u wu hu with ⟨r, hr, e1, e2⟩ | ⟨w', h1, h2, h3⟩
    · have hc : r ++ [v] ∈ cands ps rs := List.mem_flatMap.mpr ⟨r, hr, List.mem_map.mpr ⟨v, mem_lat.mpr (by rw [e1]; exact e), rfl⟩⟩
      rcases D.all _ hc with h | ⟨c', h1, h2, h3⟩
      · rw [lastI_snoc] at h
        obtain ⟨w', h1, h2, h3⟩ := l.wV v h
        exact .inr ⟨w', h1, by omega, h3⟩
      · rw [lastI_snoc] at h2
        refine .inl ⟨c', h1, h2, ?_⟩
        exact lex_le_trans h3 (lex_le_app [v] ((l.wk r hr).2.trans hu.symm) e2)
    · refine .inr ⟨w' ++ [v], h1.snoc (by rw [h3]; exact e), by rw [List.length_append, List.length_singleton]; omega, lastI_snoc _ _⟩
  · have h1 := l.no c hr hb
    by_cases e : c.length = d + 1
    · obtain ⟨wc, back⟩ := round_wk hr hb
      rcases l.al c wc e with ⟨r, hr, e1, _⟩ | ⟨w', k1, k2, k3⟩
      · exact absurd (mem_lat.mpr (by rw [e1]; exact back)) (nb r hr)
      · have := l.no w' (k1.round (by rw [k3]; exact back)) k1.hd
        omega
    · omega
  · rw [D.vs] at hv
    rcases List.mem_append.mp hv with hv | hv
    · exact l.inV v hv
    · obtain ⟨c, hc, rfl⟩ := List.mem_map.mp hv
      obtain ⟨r0, h0, o, ho, rfl⟩ := cw c (D.sub.subset hc)
      rw [lastI_snoc]
      have := s.ok _ ho
      exact ⟨this.2.2.2.1, this.2.2.2.2⟩
  · rw [D.vs] at hv
    rcases List.mem_append.mp hv with hv | hv
    · obtain ⟨w, h1, h2, h3⟩ := l.wV v hv
      exact ⟨w, h1, by omega, h3⟩
    · obtain ⟨c, hc, rfl⟩ := List.mem_map.mp hv
      obtain ⟨r0, h0, o, ho, rfl⟩ := cw c (D.sub.subset hc)
      obtain ⟨w1, w2⟩ := l.wk r0 h0
      exact ⟨_, w1.snoc ho, by rw [List.length_append, List.length_singleton]; omega, rfl⟩
  · rw [D.vs]
    exact List.mem_append_right _ (List.mem_map.mpr ⟨r, hr, rfl⟩)
  · rw [D.vs, List.length_append, List.length_map]
    have h1 : 0 < (outF ps rs (V, [])).2.length := List.length_pos_iff.mpr hne
    have h2 : rs ≠ [] := fun e => by subst e; exact hne rfl
    have := l.dV h2
    omega
/-- the first row that closes is the answer -/
theorem Lev.ret {n : Int} {ps : List Pr} {b : Int} {d : Nat} {rs r1 r2 : List (List Int)} {r : List Int} {V : List Int} (l : Lev n ps b d rs V) (e : rs = r1 ++ r :: r2) (nb : ∀ x ∈ r1, b ∉ lat ps (lastI x)) (hb : b ∈ lat ps (lastI r)) : ShortFrom ps b r := by
  subst e
  obtain ⟨w1, w2⟩ := l.wk r (by simp)
  refine .inr ⟨w1.round (mem_lat.mp hb), w1.hd, fun c' hr hh => ?_⟩
  have h1 := l.no c' hr hh
  by_cases e : c'.length = d + 1
  · obtain ⟨wc, back⟩ := round_wk hr hh
    refine .inr ⟨w2.trans e.symm, ?_⟩
    rcases l.al c' wc e with ⟨x, hx, e1, e2⟩ | ⟨w', k1, k2, k3⟩
    · have hxb : b ∈ lat ps (lastI x) := mem_lat.mpr (by rw [e1]; exact back)
      rcases List.mem_append.mp hx with hx | hx
      · exact absurd hxb (nb x hx)
      · rcases List.mem_cons.mp hx with rfl | hx
        · exact e2
        · have := (List.pairwise_cons.mp (List.pairwise_append.mp l.so).2.1).1 x hx
          exact lex_le_trans (lex_asym this) e2
    · have := l.no w' (k1.round (by rw [k3]; exact back)) k1.hd
      omega
  · exact .inl (by omega)
theorem Lev.done {n : Int} {ps : List Pr} {b : Int} {d : Nat} {V : List Int} (l : Lev n ps b d [] V) : ShortFrom ps b [] := by
  refine .inl ⟨rfl, fun c' hr hh => ?_⟩
  have key : ∀ (m : Nat) (c : List Int), c.length = m → Round ps c → c.head? = some b → False := fun m => by
    induction m using Nat.strongRecOn with
    | _ m ih =>
      intro c hm hr hh
      have h1 := l.no c hr hh
      obtain ⟨wc, back⟩ := round_wk hr hh
      have ec : c = c.take (d + 1) ++ c.drop (d + 1) := (List.take_append_drop ..).symm
      have tl : (c.take (d + 1)).length = d + 1 := by rw [List.length_take]; omega
      have tne : c.take (d + 1) ≠ [] := fun e => by rw [e] at tl; cases tl
      have wy := wc.way
      rw [ec] at wy
      obtain ⟨y1, y2, y3⟩ := way_app.mp wy
      have hd2 : (c.take (d + 1)).head? = some b := by
        have := hh
        rw [ec, head_app _ tne] at this
        exact this
      rcases l.al (c.take (d + 1)) ⟨y1, hd2⟩ tl with ⟨r, hr, _⟩ | ⟨w', k1, k2, k3⟩
      · cases hr
      · have nw : Wk ps b (w' ++ c.drop (d + 1)) := by
          refine ⟨way_app.mpr ⟨k1.way, y2, fun x y hx hy => ?_⟩, by rw [head_app _ k1.ne]; exact k1.hd⟩
          rw [lastI_last k1.ne, k3, ← lastI_last tne] at hx
          exact y3 x y hx hy
        have le : lastI (w' ++ c.drop (d + 1)) = lastI c := by
          by_cases hn : c.drop (d + 1) = []
          · rw [hn, List.append_nil, k3]
            have : c.take (d + 1) = c := by
              have := ec
              rw [hn, List.append_nil] at this
              exact this.symm
            rw [this]
          · unfold lastI
            conv => rhs; rw [ec]
            rw [last_app _ hn, last_app _ hn]
        have hlen : (w' ++ c.drop (d + 1)).length < m := by
          rw [List.length_append, List.length_drop]
          omega
        exact ih _ hlen _ rfl (nw.round (by rw [le]; exact back)) nw.hd
  exact key _ c' rfl hr hh
end D7
namespace D7
open PySem PySem.Spec PyProof.Rows L2
def lD (ns : List Int) : D := .lst (ns.map .int)
theorem lc_lat {a : Ad} {c0 c1 c2 c3 c4 c5 c6 c7 : Cell} {x : Int} {kk : List D → List Cell → Prop} : ∀ (ps : List Pr) (acc : List D) (y z : Cell), acc.length + ps.length ≤ 5000 →
    (∀ y z, kk (acc ++ (lat ps x).map .int) [c0, c1, c2, c3, c4, c5, c6, c7, .fz (.int x), y, z]) →
    lcW (gTp 2 (gC0 (gNm 10) (gC0 (gNm 9) (gN0)))) (t_shortest_round_i1 a) (t_shortest_round_e1 a) [10, 9] kk (ps.map pD) acc [c0, c1, c2, c3, c4, c5, c6, c7, .fz (.int x), y, z]
  | [], acc, y, z, _, h => by simpa [lcW, lat] using h y z
  | p :: ps, acc, y, z, hl, h => by
    have hl2 : acc.length + (ps.length + 1) ≤ 5000 := by simpa using hl
    have ih1 := lc_lat (a := a) (c0 := c0) (c1 := c1) (c2 := c2) (c3 := c3) (c4 := c4) (c5 := c5) (c6 := c6) (c7 := c7) (x := x) (kk := kk) ps (acc ++ [.int p.2]) .off .off (by simp; omega)
    have ih2 := lc_lat (a := a) (c0 := c0) (c1 := c1) (c2 := c2) (c3 := c3) (c4 := c4) (c5 := c5) (c6 := c6) (c7 := c7) (x := x) (kk := kk) ps acc .off .off (by omega)
    show gTp 2 _ _ _ _ _
    have sl := sizeLine_eq
    generalize hF : lcW (gTp 2 (gC0 (gNm 10) (gC0 (gNm 9) (gN0)))) (t_shortest_round_i1 a) (t_shortest_round_e1 a) [10, 9] kk (ps.map pD) = F at ih1 ih2 ⊢
    unfold t_shortest_round_i1 t_shortest_round_e1
    simp only [sSeq, sIf, sRet, sRetN, sNx, sBk, sCt, sSet, sDrop, sAug, sAsg, sPar, sRaise, sSetF, cOf, cLst, cCb, cOp, dOf, dTest, dOp, dUn, dChain, dNot, dNotV, dAnd, dOr, dAndV, dOrV, dIf, dTru, dVar, dC, dCons, dNil, dTup, dLst, dCall, dCb, dIsT, dFld, dProp, dMake, dMethO, dMut, dCut, dTupR, dHeard, dnC, hSl, hOf, hNil, hCons, oSome, oNone, iSeq, iRng1D, iRng2D, gNm, gTp, gC0, gN0, gSto, dYes, kI0, kI, kU, kAdd, kMul, kEq, kNe, kLt, kIs, kIn, kInS, kIx, kLen, kList, kTuple, kInt, kRep, kAppend, kPopAt, kSAdd, kTru_bl, kTru_int, kTru_non, kTru_lst, kTru_tup, kTru_dic, isCell, peek, res, ress, cellD, startC, seqD, List.map_cons, List.map_nil, List.length_cons, List.length_nil, List.cons_append, List.nil_append, List.append_nil, List.replicate_succ, List.replicate_zero, Nat.reduceSub, Nat.reduceAdd, List.getElem?_cons_zero, List.getElem?_cons_succ, List.set_cons_zero, List.set_cons_succ, Option.bind_some, Option.some.injEq, Option.isSome_some, exists_eq_left, exists_eq_left', exists_eq_right, exists_eq_right', exists_and_left, exists_and_right, exists_const, and_assoc, and_true, true_and, Bool.not_true, Bool.not_false, reduceCtorEq, Option.map_some, D.obj.injEq, D.int.injEq, D.bl.injEq, D.lst.injEq, D.tup.injEq, D.str.injEq, Cell.fz.injEq, Cell.ow.injEq, Cell.os.injEq, List.cons.injEq, bIf_t, bIf_f, if_true, if_false, ite_true, ite_false, Bool.false_eq_true, and_self, false_and, and_false, implies_true, pD, wipeC, okD, eqD]
    refine bIf_of (fun e1 => ⟨by omega, ih1 fun y z => ?_⟩) fun e1 => ih2 fun y z => ?_
    · have e : p.1 = x := by simpa using e1
      have := h y z
      unfold lat at this ⊢
      rw [List.filter_cons_of_pos (by simpa using e)] at this
      simpa using this
    · have e : ¬ p.1 = x := by simpa using e1
      have := h y z
      unfold lat at this ⊢
      rw [List.filter_cons_of_neg (by simpa using e)] at this
      exact this
theorem lc_later {a : Ad} {n : Int} {ps : List Pr} {c0 c2 c3 c4 c5 c6 c7 : Cell} {kk : List D → List Cell → Prop} (hps : ps.length ≤ 4000) : ∀ (xs : List Int) (acc : List D) (z y w : Cell), acc.length + xs.length ≤ 100 →
    (∀ z y w, kk (acc ++ xs.map fun x => lD (lat ps x)) [c0, .fz (nD ps), c2, c3, c4, c5, c6, c7, z, y, w]) →
    lcW (gNm 8) (t_shortest_round_i2 a) (t_shortest_round_e2 a) [8] kk (xs.map .int) acc [c0, .fz (nD ps), c2, c3, c4, c5, c6, c7, z, y, w]
  | [], acc, z, y, w, _, h => by simpa [lcW] using h z y w
  | x :: xs, acc, z, y, w, hl, h => by
    have hl2 : acc.length + (xs.length + 1) ≤ 100 := by simpa using hl
    have ih := fun y w => lc_later (a := a) (n := n) (c0 := c0) (c2 := c2) (c3 := c3) (c4 := c4) (c5 := c5) (c6 := c6) (c7 := c7) (kk := kk) hps xs (acc ++ [lD (lat ps x)]) .off y w (by simp; omega) (by simpa using h)
    show gNm 8 _ _ _ _
    have sl := sizeLine_eq
    generalize hF : lcW (gNm 8) (t_shortest_round_i2 a) (t_shortest_round_e2 a) [8] kk (xs.map .int) = F at ih ⊢
    unfold t_shortest_round_i2 t_shortest_round_e2
    simp only [sSeq, sIf, sRet, sRetN, sNx, sBk, sCt, sSet, sDrop, sAug, sAsg, sPar, sRaise, sSetF, cOf, cLst, cCb, cOp, dOf, dTest, dOp, dUn, dChain, dNot, dNotV, dAnd, dOr, dAndV, dOrV, dIf, dTru, dVar, dC, dCons, dNil, dTup, dLst, dCall, dCb, dIsT, dFld, dProp, dMake, dMethO, dMut, dCut, dTupR, dHeard, dnC, hSl, hOf, hNil, hCons, oSome, oNone, iSeq, iRng1D, iRng2D, gNm, gTp, gC0, gN0, gSto, dYes, kI0, kI, kU, kAdd, kMul, kEq, kNe, kLt, kIs, kIn, kInS, kIx, kLen, kList, kTuple, kInt, kRep, kAppend, kPopAt, kSAdd, kTru_bl, kTru_int, kTru_non, kTru_lst, kTru_tup, kTru_dic, isCell, peek, res, ress, cellD, startC, seqD, List.map_cons, List.map_nil, List.length_cons, List.length_nil, List.cons_append, List.nil_append, List.append_nil, List.replicate_succ, List.replicate_zero, Nat.reduceSub, Nat.reduceAdd, List.getElem?_cons_zero, List.getElem?_cons_succ, List.set_cons_zero, List.set_cons_succ, Option.bind_some, Option.some.injEq, Option.isSome_some, exists_eq_left, exists_eq_left', exists_eq_right, exists_eq_right', exists_and_left, exists_and_right, exists_const, and_assoc, and_true, true_and, Bool.not_true, Bool.not_false, reduceCtorEq, Option.map_some, D.obj.injEq, D.int.injEq, D.bl.injEq, D.lst.injEq, D.tup.injEq, D.str.injEq, Cell.fz.injEq, Cell.ow.injEq, Cell.os.injEq, List.cons.injEq, bIf_t, bIf_f, if_true, if_false, ite_true, ite_false, Bool.false_eq_true, and_self, false_and, and_false, implies_true, nD, cLc, wipeC]
    refine lc_lat ps [] .off .off (by simpa using (by omega : ps.length ≤ 5000)) fun y2 z2 => ?_
    simp only [sSeq, sIf, sRet, sRetN, sNx, sBk, sCt, sSet, sDrop, sAug, sAsg, sPar, sRaise, sSetF, cOf, cLst, cCb, cOp, dOf, dTest, dOp, dUn, dChain, dNot, dNotV, dAnd, dOr, dAndV, dOrV, dIf, dTru, dVar, dC, dCons, dNil, dTup, dLst, dCall, dCb, dIsT, dFld, dProp, dMake, dMethO, dMut, dCut, dTupR, dHeard, dnC, hSl, hOf, hNil, hCons, oSome, oNone, iSeq, iRng1D, iRng2D, gNm, gTp, gC0, gN0, gSto, dYes, kI0, kI, kU, kAdd, kMul, kEq, kNe, kLt, kIs, kIn, kInS, kIx, kLen, kList, kTuple, kInt, kRep, kAppend, kPopAt, kSAdd, kTru_bl, kTru_int, kTru_non, kTru_lst, kTru_tup, kTru_dic, isCell, peek, res, ress, cellD, startC, seqD, List.map_cons, List.map_nil, List.length_cons, List.length_nil, List.cons_append, List.nil_append, List.append_nil, List.replicate_succ, List.replicate_zero, Nat.reduceSub, Nat.reduceAdd, List.getElem?_cons_zero, List.getElem?_cons_succ, List.set_cons_zero, List.set_cons_succ, Option.bind_some, Option.some.injEq, Option.isSome_some, exists_eq_left, exists_eq_left', exists_eq_right, exists_eq_right', exists_and_left, exists_and_right, exists_const, and_assoc, and_true, true_and, Bool.not_true, Bool.not_false, reduceCtorEq, Option.map_some, D.obj.injEq, D.int.injEq, D.bl.injEq, D.lst.injEq, D.tup.injEq, D.str.injEq, Cell.fz.injEq, Cell.ow.injEq, Cell.os.injEq, List.cons.injEq, bIf_t, bIf_f, if_true, if_false, ite_true, ite_false, Bool.false_eq_true, and_self, false_and, and_false, implies_true, unwipe, keepF, wipeC]
    refine ⟨by omega, ?_⟩
    unfold lD nD at ih
    exact ih _ _
def stepS (S : Int → Bool) (V : List Int) : Prop := ∀ j, S j = decide (j ∈ V)
theorem loop_bfs1 {a : Ad} {b n : Int} {r : List Int} {k : DK} {ex : XD} {c0 c1 c3 c4 c8 c10 : Cell} (hr : r.length ≤ 30) : ∀ (os : List Int) (V : List Int) (L : List (List Int)) (S : Int → Bool) (z : Cell), stepS S V → V.Nodup → (∀ v ∈ V, 0 ≤ v ∧ v < n) → (∀ o ∈ os, 0 ≤ o ∧ o < n) → n ≤ 24 → L.length ≤ V.length →
    (b ∈ os → ∀ ρ, k.rt (iD r) ρ) →
    (b ∉ os → ∀ S z, stepS S (inF r os (V, L)).1 → k.nx [c0, c1, .fz (.int b), c3, c4, .os S (inF r os (V, L)).1.length, .ow ((inF r os (V, L)).2.map iD), .fz (iD r), c8, z, c10]) →
    forW (gNm 9) (t_shortest_round_b1 a) k ex (os.map .int) [c0, c1, .fz (.int b), c3, c4, .os S V.length, .ow (L.map iD), .fz (iD r), c8, z, c10]
  | [], V, L, S, z, hS, _, _, _, _, _, _, h => h (by simp) S z hS
  | o :: os, V, L, S, z, hS, nd, hV, ho, h24, hL, h1, h2 => by
    have hvl : V.length ≤ 24 := by
      have := nodup_le n.toNat V nd fun x hx => by have := hV x hx; omega
      omega
    have oo := ho o List.mem_cons_self
    have ih1 := fun (hb : b ≠ o) (hm : o ∈ V) => loop_bfs1 (a := a) (b := b) (n := n) (k := k) (ex := ex) (c0 := c0) (c1 := c1) (c3 := c3) (c4 := c4) (c8 := c8) (c10 := c10) hr os V L S (.fz (.int o)) hS nd hV (fun x hx => ho x (List.mem_cons_of_mem _ hx)) h24 hL
      (fun hb2 => h1 (List.mem_cons_of_mem _ hb2)) (fun hb2 => by
        have := h2 (by simp [hb, hb2])
        have e : inF r (o :: os) (V, L) = inF r os (V, L) := by
          show inF r os (stepC (V, L) r o) = _
          unfold stepC
          rw [if_pos hm]
        rw [e] at this
        exact this)
    have ih2 := fun (hb : b ≠ o) (hm : o ∉ V) S' (hS' : stepS S' (V ++ [o])) => loop_bfs1 (a := a) (b := b) (n := n) (k := k) (ex := ex) (c0 := c0) (c1 := c1) (c3 := c3) (c4 := c4) (c8 := c8) (c10 := c10) hr os (V ++ [o]) (L ++ [r ++ [o]]) S' (.fz (.int o)) hS'
      (List.nodup_append.mpr ⟨nd, by simp, fun x hx y hy e => by obtain rfl := List.mem_singleton.mp hy; exact hm (e ▸ hx)⟩)
      (fun v hv => by
        rcases List.mem_append.mp hv with hv | hv
        · exact hV v hv
        · obtain rfl := List.mem_singleton.mp hv; exact oo)
      (fun x hx => ho x (List.mem_cons_of_mem _ hx)) h24 (by simp; exact hL)
      (fun hb2 => h1 (List.mem_cons_of_mem _ hb2)) (fun hb2 => by
        have := h2 (by simp [hb, hb2])
        have e : inF r (o :: os) (V, L) = inF r os (V ++ [o], L ++ [r ++ [o]]) := by
          show inF r os (stepC (V, L) r o) = _
          unfold stepC
          rw [if_neg hm]
        rw [e] at this
        exact this)
    show gNm 9 _ _ _ _
    have sl := sizeLine_eq
    generalize hF : forW (gNm 9) (t_shortest_round_b1 a) k ex (os.map .int) = F at ih1 ih2 ⊢
    unfold t_shortest_round_b1
    simp only [sSeq, sIf, sRet, sRetN, sNx, sBk, sCt, sSet, sDrop, sAug, sAsg, sPar, sRaise, sSetF, cOf, cLst, cCb, cOp, dOf, dTest, dOp, dUn, dChain, dNot, dNotV, dAnd, dOr, dAndV, dOrV, dIf, dTru, dVar, dC, dCons, dNil, dTup, dLst, dCall, dCb, dIsT, dFld, dProp, dMake, dMethO, dMut, dCut, dTupR, dHeard, dnC, hSl, hOf, hNil, hCons, oSome, oNone, iSeq, iRng1D, iRng2D, gNm, gTp, gC0, gN0, gSto, dYes, kI0, kI, kU, kAdd, kMul, kEq, kNe, kLt, kIs, kIn, kInS, kIx, kLen, kList, kTuple, kInt, kRep, kAppend, kPopAt, kSAdd, kTru_bl, kTru_int, kTru_non, kTru_lst, kTru_tup, kTru_dic, isCell, peek, res, ress, cellD, startC, seqD, List.map_cons, List.map_nil, List.length_cons, List.length_nil, List.cons_append, List.nil_append, List.append_nil, List.replicate_succ, List.replicate_zero, Nat.reduceSub, Nat.reduceAdd, List.getElem?_cons_zero, List.getElem?_cons_succ, List.set_cons_zero, List.set_cons_succ, Option.bind_some, Option.some.injEq, Option.isSome_some, exists_eq_left, exists_eq_left', exists_eq_right, exists_eq_right', exists_and_left, exists_and_right, exists_const, and_assoc, and_true, true_and, Bool.not_true, Bool.not_false, reduceCtorEq, Option.map_some, D.obj.injEq, D.int.injEq, D.bl.injEq, D.lst.injEq, D.tup.injEq, D.str.injEq, Cell.fz.injEq, Cell.ow.injEq, Cell.os.injEq, List.cons.injEq, bIf_t, bIf_f, if_true, if_false, ite_true, ite_false, Bool.false_eq_true, and_self, false_and, and_false, implies_true, iD, okD, eqD, List.length_map]
    refine bIf_of (fun e => ?_) fun e => ?_
    · have : o = b := by simpa using e
      subst this
      exact h1 List.mem_cons_self _
    · have ne : b ≠ o := by intro z; simp [z] at e
      refine bIf_of (fun e2 => ?_) fun e2 => ?_
      · have hm : o ∉ V := by
          have := hS o
          simp [this] at e2
          exact e2
        have hSo : S o = false := by rw [hS o]; exact decide_eq_false hm
        have := ih2 ne hm (fun j => S j || decide (j = o)) fun j => by
          show (S j || decide (j = o)) = _
          rw [hS j]; simp
        simp only [hSo, sSeq, sIf, sRet, sRetN, sNx, sBk, sCt, sSet, sDrop, sAug, sAsg, sPar, sRaise, sSetF, cOf, cLst, cCb, cOp, dOf, dTest, dOp, dUn, dChain, dNot, dNotV, dAnd, dOr, dAndV, dOrV, dIf, dTru, dVar, dC, dCons, dNil, dTup, dLst, dCall, dCb, dIsT, dFld, dProp, dMake, dMethO, dMut, dCut, dTupR, dHeard, dnC, hSl, hOf, hNil, hCons, oSome, oNone, iSeq, iRng1D, iRng2D, gNm, gTp, gC0, gN0, gSto, dYes, kI0, kI, kU, kAdd, kMul, kEq, kNe, kLt, kIs, kIn, kInS, kIx, kLen, kList, kTuple, kInt, kRep, kAppend, kPopAt, kSAdd, kTru_bl, kTru_int, kTru_non, kTru_lst, kTru_tup, kTru_dic, isCell, peek, res, ress, cellD, startC, seqD, List.map_cons, List.map_nil, List.length_cons, List.length_nil, List.cons_append, List.nil_append, List.append_nil, List.replicate_succ, List.replicate_zero, Nat.reduceSub, Nat.reduceAdd, List.getElem?_cons_zero, List.getElem?_cons_succ, List.set_cons_zero, List.set_cons_succ, Option.bind_some, Option.some.injEq, Option.isSome_some, exists_eq_left, exists_eq_left', exists_eq_right, exists_eq_right', exists_and_left, exists_and_right, exists_const, and_assoc, and_true, true_and, Bool.not_true, Bool.not_false, reduceCtorEq, Option.map_some, D.obj.injEq, D.int.injEq, D.bl.injEq, D.lst.injEq, D.tup.injEq, D.str.injEq, Cell.fz.injEq, Cell.ow.injEq, Cell.os.injEq, List.cons.injEq, bIf_t, bIf_f, if_true, if_false, ite_true, ite_false, Bool.false_eq_true, and_self, false_and, and_false, implies_true]
        have sb : 100 < scanBound := by decide
        refine ⟨by decide, by decide, by omega, by decide, by decide, by omega, by decide, by omega, ?_⟩
        simpa [iD] using this
      · have hm : o ∈ V := by
          have := hS o
          simp [this] at e2
          exact e2
        exact ih1 ne hm
theorem inF_bound {n : Int} {r : List Int} : ∀ (os : List Int) (V : List Int) (L : List (List Int)), V.Nodup → (∀ v ∈ V, 0 ≤ v ∧ v < n) → (∀ o ∈ os, 0 ≤ o ∧ o < n) → L.length ≤ V.length →
    (inF r os (V, L)).1.Nodup ∧ (∀ v ∈ (inF r os (V, L)).1, 0 ≤ v ∧ v < n) ∧ (inF r os (V, L)).2.length ≤ (inF r os (V, L)).1.length
  | [], V, L, h1, h2, _, h3 => ⟨h1, h2, h3⟩
  | o :: os, V, L, h1, h2, ho, h3 => by
    show (inF r os (stepC (V, L) r o)).1.Nodup ∧ (∀ v ∈ (inF r os (stepC (V, L) r o)).1, 0 ≤ v ∧ v < n) ∧ (inF r os (stepC (V, L) r o)).2.length ≤ (inF r os (stepC (V, L) r o)).1.length
    unfold stepC
    have ho' := fun x hx => ho x (List.mem_cons_of_mem o hx)
    by_cases hm : o ∈ V
    · rw [if_pos hm]
      exact inF_bound os V L h1 h2 ho' h3
    · rw [if_neg hm]
      refine inF_bound os _ _ ?_ ?_ ho' (by simp; exact h3)
      · exact List.nodup_append.mpr ⟨h1, by simp, fun x hx y hy e => by obtain rfl := List.mem_singleton.mp hy; exact hm (e ▸ hx)⟩
      · intro v hv
        rcases List.mem_append.mp hv with hv | hv
        · exact h2 v hv
        · obtain rfl := List.mem_singleton.mp hv; exact ho v List.mem_cons_self
theorem lat_mem {n : Int} {ps : List Pr} (s : Sound n ps) {x y : Int} (h : y ∈ lat ps x) : 0 ≤ y ∧ y < n := by
  have := s.ok _ (mem_lat.mp h)
  exact ⟨this.2.2.2.1, this.2.2.2.2⟩
theorem snoc_of {r : List Int} (h : r ≠ []) : ∃ u, r = u ++ [lastI r] := ⟨r.dropLast, by
  have := (List.dropLast_concat_getLast h).symm
  unfold lastI
  rw [List.getLast?_eq_some_getLast h]
  exact this⟩
theorem loop_bfs2 {a : Ad} {b n : Int} {ps : List Pr} {k : DK} {ex : XD} {c4 c8 c10 : Cell} (s : Sound n ps) (h24 : n ≤ 24) : ∀ (rs : List (List Int)) (V : List Int) (L : List (List Int)) (S : Int → Bool) (c7 z : Cell), stepS S V → V.Nodup → (∀ v ∈ V, 0 ≤ v ∧ v < n) → L.length ≤ V.length →
    (∀ r ∈ rs, r ≠ [] ∧ r.length ≤ 30 ∧ 0 ≤ lastI r ∧ lastI r < n) →
    (∀ r1 r r2, rs = r1 ++ r :: r2 → (∀ x ∈ r1, b ∉ lat ps (lastI x)) → b ∈ lat ps (lastI r) → ∀ ρ, k.rt (iD r) ρ) →
    ((∀ r ∈ rs, b ∉ lat ps (lastI r)) → ∀ S c7 z, stepS S (outF ps rs (V, L)).1 → k.nx [.fz (.int n), .fz (nD ps), .fz (.int b), .ow ((rgI 0 n.toNat).map fun x => lD (lat ps x)), c4, .os S (outF ps rs (V, L)).1.length, .ow ((outF ps rs (V, L)).2.map iD), c7, c8, z, c10]) →
    forW (gNm 7) (t_shortest_round_b2 a) k ex (rs.map iD) [.fz (.int n), .fz (nD ps), .fz (.int b), .ow ((rgI 0 n.toNat).map fun x => lD (lat ps x)), c4, .os S V.length, .ow (L.map iD), c7, c8, z, c10]
  | [], V, L, S, c7, z, hS, _, _, _, _, _, h => h nofun S c7 z hS
  | r :: rs, V, L, S, c7, z, hS, nd, hV, hL, hr, h1, h2 => by
    obtain ⟨rne, rl, l0, l1⟩ := hr r List.mem_cons_self
    obtain ⟨n1, n2, n3⟩ := inF_bound (r := r) (lat ps (lastI r)) V L nd hV (fun o ho => lat_mem s ho) hL
    have ih := fun (nb : b ∉ lat ps (lastI r)) S' z' (hS' : stepS S' (inF r (lat ps (lastI r)) (V, L)).1) => loop_bfs2 (a := a) (b := b) (k := k) (ex := ex) (c4 := c4) (c8 := c8) (c10 := c10) s h24 rs _ (inF r (lat ps (lastI r)) (V, L)).2 S' (.fz (iD r)) z' hS' n1 n2 n3
      (fun x hx => hr x (List.mem_cons_of_mem _ hx))
      (fun r1 x r2 e hx hb ρ => h1 (r :: r1) x r2 (by rw [e]; rfl) (fun y hy => by
        rcases List.mem_cons.mp hy with rfl | hy
        · exact nb
        · exact hx y hy) hb ρ)
      (fun hnb => h2 fun x hx => by
        rcases List.mem_cons.mp hx with rfl | hx
        · exact nb
        · exact hnb x hx)
    show gNm 7 _ _ _ _
    generalize hF : forW (gNm 7) (t_shortest_round_b2 a) k ex (rs.map iD) = F at ih ⊢
    obtain ⟨u, hu⟩ := snoc_of rne
    have a1 : atI (r.map D.int) (-1) = some (.int (lastI r)) := by
      conv => lhs; rw [hu]
      rw [List.map_append]
      exact atI_last
    have a2 : atI ((rgI 0 n.toNat).map fun x => lD (lat ps x)) (lastI r) = some (lD (lat ps (lastI r))) := atI_nat l0 (by
      rw [List.getElem?_map]
      unfold rgI
      rw [List.getElem?_map, List.getElem?_range (by omega)]
      simp only [Option.map_some]
      congr 3
      omega)
    unfold t_shortest_round_b2
    simp only [sSeq, sIf, sRet, sRetN, sNx, sBk, sCt, sSet, sDrop, sAug, sAsg, sPar, sRaise, sSetF, cOf, cLst, cCb, cOp, dOf, dTest, dOp, dUn, dChain, dNot, dNotV, dAnd, dOr, dAndV, dOrV, dIf, dTru, dVar, dC, dCons, dNil, dTup, dLst, dCall, dCb, dIsT, dFld, dProp, dMake, dMethO, dMut, dCut, dTupR, dHeard, dnC, hSl, hOf, hNil, hCons, oSome, oNone, iSeq, iRng1D, iRng2D, gNm, gTp, gC0, gN0, gSto, dYes, kI0, kI, kU, kAdd, kMul, kEq, kNe, kLt, kIs, kIn, kInS, kIx, kLen, kList, kTuple, kInt, kRep, kAppend, kPopAt, kSAdd, kTru_bl, kTru_int, kTru_non, kTru_lst, kTru_tup, kTru_dic, isCell, peek, res, ress, cellD, startC, seqD, List.map_cons, List.map_nil, List.length_cons, List.length_nil, List.cons_append, List.nil_append, List.append_nil, List.replicate_succ, List.replicate_zero, Nat.reduceSub, Nat.reduceAdd, List.getElem?_cons_zero, List.getElem?_cons_succ, List.set_cons_zero, List.set_cons_succ, Option.bind_some, Option.some.injEq, Option.isSome_some, exists_eq_left, exists_eq_left', exists_eq_right, exists_eq_right', exists_and_left, exists_and_right, exists_const, and_assoc, and_true, true_and, Bool.not_true, Bool.not_false, reduceCtorEq, Option.map_some, D.obj.injEq, D.int.injEq, D.bl.injEq, D.lst.injEq, D.tup.injEq, D.str.injEq, Cell.fz.injEq, Cell.ow.injEq, Cell.os.injEq, List.cons.injEq, bIf_t, bIf_f, if_true, if_false, ite_true, ite_false, Bool.false_eq_true, and_self, false_and, and_false, implies_true, sFor, iD, a1, a2, lD]
    have goal := loop_bfs1 (a := a) (b := b) (n := n) (r := r) (k := { nx := F, rt := k.rt, bk := k.nx, ct := F }) (ex := ex) (c0 := .fz (.int n)) (c1 := .fz (nD ps)) (c3 := .ow ((rgI 0 n.toNat).map fun x => lD (lat ps x))) (c4 := c4) (c8 := c8) (c10 := c10) rl (lat ps (lastI r)) V L S z hS nd hV (fun o ho => lat_mem s ho) h24 hL
      (fun hb ρ => h1 [] r rs rfl nofun hb ρ) (fun nb S' z' hS' => ih nb S' z' hS')
    exact ⟨_, a2, _, rfl, goal⟩
theorem pairs_len {n : Int} {ps : List Pr} (s : Sound n ps) (h24 : n ≤ 24) : ps.length ≤ 4000 := by
  have nd : (ps.map fun p => p.1 * 32 + p.2).Nodup := by
    refine List.Pairwise.map _ (fun p q h => ?_) (List.Pairwise.and_mem.mp (chain_pw s.ch))
    obtain ⟨hp, hq, h⟩ := h
    have o1 := s.ok p hp
    have o2 := s.ok q hq
    unfold okP at o1 o2
    intro e
    have e1 : p.1 = q.1 := by omega
    have e2 : p.2 = q.2 := by omega
    have : p = q := Prod.ext e1 e2
    subst this
    unfold ltP at h
    rw [lex_irr] at h
    cases h
  have := nodup_le 1000 _ nd fun x hx => by
    obtain ⟨p, hp, rfl⟩ := List.mem_map.mp hx
    have o := s.ok p hp
    unfold okP at o
    omega
  rw [List.length_map] at this
  omega
def wBfs (n : Int) (ps : List Pr) (b : Int) : Nat → List Cell → Prop := fun m ρ => ∃ d rs V S c6 c7 c8 c9 c10, ρ = [Cell.fz (.int n), Cell.fz (nD ps), Cell.fz (.int b), Cell.ow ((rgI 0 n.toNat).map fun x => lD (lat ps x)), Cell.fz (.lst (rs.map iD)), Cell.os S V.length, c6, c7, c8, c9, c10] ∧
  stepS S V ∧ Lev n ps b d rs V ∧ m = 2 * (24 - V.length) + (if rs = [] then 0 else 1)
theorem law_shortest_round (a : Ad) : ∀ args q ex, ds_shortest_round a args q ex → t_shortest_round a (startC 11 args) { nx := fun _ => q .non, rt := fun d _ => q d } ex := by
  rintro args q ex ⟨n, ps, b, rfl, s, h24, h0, hb, h⟩
  unfold t_shortest_round
  have e2 : (2 : Int) ^ 62 = 4611686018427387904 := by decide
  simp only [sSeq, sIf, sRet, sRetN, sNx, sBk, sCt, sSet, sDrop, sAug, sAsg, sPar, sRaise, sSetF, cOf, cLst, cCb, cOp, dOf, dTest, dOp, dUn, dChain, dNot, dNotV, dAnd, dOr, dAndV, dOrV, dIf, dTru, dVar, dC, dCons, dNil, dTup, dLst, dCall, dCb, dIsT, dFld, dProp, dMake, dMethO, dMut, dCut, dTupR, dHeard, dnC, hSl, hOf, hNil, hCons, oSome, oNone, iSeq, iRng1D, iRng2D, gNm, gTp, gC0, gN0, gSto, dYes, kI0, kI, kU, kAdd, kMul, kEq, kNe, kLt, kIs, kIn, kInS, kIx, kLen, kList, kTuple, kInt, kRep, kAppend, kPopAt, kSAdd, kTru_bl, kTru_int, kTru_non, kTru_lst, kTru_tup, kTru_dic, isCell, peek, res, ress, cellD, startC, seqD, List.map_cons, List.map_nil, List.length_cons, List.length_nil, List.cons_append, List.nil_append, List.append_nil, List.replicate_succ, List.replicate_zero, Nat.reduceSub, Nat.reduceAdd, List.getElem?_cons_zero, List.getElem?_cons_succ, List.set_cons_zero, List.set_cons_succ, Option.bind_some, Option.some.injEq, Option.isSome_some, exists_eq_left, exists_eq_left', exists_eq_right, exists_eq_right', exists_and_left, exists_and_right, exists_const, and_assoc, and_true, true_and, Bool.not_true, Bool.not_false, reduceCtorEq, Option.map_some, D.obj.injEq, D.int.injEq, D.bl.injEq, D.lst.injEq, D.tup.injEq, D.str.injEq, Cell.fz.injEq, Cell.ow.injEq, Cell.os.injEq, List.cons.injEq, bIf_t, bIf_f, if_true, if_false, ite_true, ite_false, Bool.false_eq_true, and_self, false_and, and_false, implies_true, cLc, rangeD_eq, wipeC]
  refine ⟨by omega, by omega, ?_⟩
  refine lc_later (n := n) (pairs_len s h24) _ [] .off .off .off (by rw [rgI_length]; simp; omega) fun z y w => ?_
  simp only [sSeq, sIf, sRet, sRetN, sNx, sBk, sCt, sSet, sDrop, sAug, sAsg, sPar, sRaise, sSetF, cOf, cLst, cCb, cOp, dOf, dTest, dOp, dUn, dChain, dNot, dNotV, dAnd, dOr, dAndV, dOrV, dIf, dTru, dVar, dC, dCons, dNil, dTup, dLst, dCall, dCb, dIsT, dFld, dProp, dMake, dMethO, dMut, dCut, dTupR, dHeard, dnC, hSl, hOf, hNil, hCons, oSome, oNone, iSeq, iRng1D, iRng2D, gNm, gTp, gC0, gN0, gSto, dYes, kI0, kI, kU, kAdd, kMul, kEq, kNe, kLt, kIs, kIn, kInS, kIx, kLen, kList, kTuple, kInt, kRep, kAppend, kPopAt, kSAdd, kTru_bl, kTru_int, kTru_non, kTru_lst, kTru_tup, kTru_dic, isCell, peek, res, ress, cellD, startC, seqD, List.map_cons, List.map_nil, List.length_cons, List.length_nil, List.cons_append, List.nil_append, List.append_nil, List.replicate_succ, List.replicate_zero, Nat.reduceSub, Nat.reduceAdd, List.getElem?_cons_zero, List.getElem?_cons_succ, List.set_cons_zero, List.set_cons_succ, Option.bind_some, Option.some.injEq, Option.isSome_some, exists_eq_left, exists_eq_left', exists_eq_right, exists_eq_right', exists_and_left, exists_and_right, exists_const, and_assoc, and_true, true_and, Bool.not_true, Bool.not_false, reduceCtorEq, Option.map_some, D.obj.injEq, D.int.injEq, D.bl.injEq, D.lst.injEq, D.tup.injEq, D.str.injEq, Cell.fz.injEq, Cell.ow.injEq, Cell.os.injEq, List.cons.injEq, bIf_t, bIf_f, if_true, if_false, ite_true, ite_false, Bool.false_eq_true, and_self, false_and, and_false, implies_true, unwipe, keepF, cSet1, sWhile]
  refine ⟨by decide, by decide, ?_⟩
  refine ⟨wBfs n ps b, ⟨_, 0, [[b]], [b], _, _, _, _, _, _, rfl, fun j => by simp, Lev.start s h0 hb, rfl⟩, ?_⟩
  rintro m ρ ⟨d, rs, V, S, c6, c7, c8, c9, c10, rfl, hS, l, rfl⟩
  have hvl : V.length ≤ 24 := by
    have := nodup_le n.toNat V l.nd fun x hx => by have := l.inV x hx; omega
    omega
  unfold t_shortest_round_w1 t_shortest_round_b3
  simp only [sSeq, sIf, sRet, sRetN, sNx, sBk, sCt, sSet, sDrop, sAug, sAsg, sPar, sRaise, sSetF, cOf, cLst, cCb, cOp, dOf, dTest, dOp, dUn, dChain, dNot, dNotV, dAnd, dOr, dAndV, dOrV, dIf, dTru, dVar, dC, dCons, dNil, dTup, dLst, dCall, dCb, dIsT, dFld, dProp, dMake, dMethO, dMut, dCut, dTupR, dHeard, dnC, hSl, hOf, hNil, hCons, oSome, oNone, iSeq, iRng1D, iRng2D, gNm, gTp, gC0, gN0, gSto, dYes, kI0, kI, kU, kAdd, kMul, kEq, kNe, kLt, kIs, kIn, kInS, kIx, kLen, kList, kTuple, kInt, kRep, kAppend, kPopAt, kSAdd, kTru_bl, kTru_int, kTru_non, kTru_lst, kTru_tup, kTru_dic, isCell, peek, res, ress, cellD, startC, seqD, List.map_cons, List.map_nil, List.length_cons, List.length_nil, List.cons_append, List.nil_append, List.append_nil, List.replicate_succ, List.replicate_zero, Nat.reduceSub, Nat.reduceAdd, List.getElem?_cons_zero, List.getElem?_cons_succ, List.set_cons_zero, List.set_cons_succ, Option.bind_some, Option.some.injEq, Option.isSome_some, exists_eq_left, exists_eq_left', exists_eq_right, exists_eq_right', exists_and_left, exists_and_right, exists_const, and_assoc, and_true, true_and, Bool.not_true, Bool.not_false, reduceCtorEq, Option.map_some, D.obj.injEq, D.int.injEq, D.bl.injEq, D.lst.injEq, D.tup.injEq, D.str.injEq, Cell.fz.injEq, Cell.ow.injEq, Cell.os.injEq, List.cons.injEq, bIf_t, bIf_f, if_true, if_false, ite_true, ite_false, Bool.false_eq_true, and_self, false_and, and_false, implies_true, sFor]
  refine bIf_of (fun e => ?_) fun e => ?_
  · have rne : rs ≠ [] := fun z => by simp [z] at e
    have hd := l.dV rne
    refine ⟨Nat.zero_le _, ?_⟩
    refine loop_bfs2 s h24 rs V [] S c7 c9 hS l.nd l.inV (Nat.zero_le _) (fun r hr => ?_) (fun r1 r r2 er hx hbl ρ => h r (l.ret er hx hbl)) (fun hnb S' c7' z' hS' => ?_)
    · obtain ⟨w1, w2⟩ := l.wk r hr
      have := l.inV _ (l.rV r hr)
      exact ⟨w1.ne, by omega, this.1, this.2⟩
    · have l2 := l.next s hnb
      have nb2 : (outF ps rs (V, [])).1.length ≤ 24 := by
        have := nodup_le n.toNat _ l2.nd fun x hx => by have := l2.inV x hx; omega
        omega
      have dd := outF_ded s l
      have ev := congrArg List.length dd.vs
      rw [List.length_append, List.length_map] at ev
      simp only [sSeq, sIf, sRet, sRetN, sNx, sBk, sCt, sSet, sDrop, sAug, sAsg, sPar, sRaise, sSetF, cOf, cLst, cCb, cOp, dOf, dTest, dOp, dUn, dChain, dNot, dNotV, dAnd, dOr, dAndV, dOrV, dIf, dTru, dVar, dC, dCons, dNil, dTup, dLst, dCall, dCb, dIsT, dFld, dProp, dMake, dMethO, dMut, dCut, dTupR, dHeard, dnC, hSl, hOf, hNil, hCons, oSome, oNone, iSeq, iRng1D, iRng2D, gNm, gTp, gC0, gN0, gSto, dYes, kI0, kI, kU, kAdd, kMul, kEq, kNe, kLt, kIs, kIn, kInS, kIx, kLen, kList, kTuple, kInt, kRep, kAppend, kPopAt, kSAdd, kTru_bl, kTru_int, kTru_non, kTru_lst, kTru_tup, kTru_dic, isCell, peek, res, ress, cellD, startC, seqD, List.map_cons, List.map_nil, List.length_cons, List.length_nil, List.cons_append, List.nil_append, List.append_nil, List.replicate_succ, List.replicate_zero, Nat.reduceSub, Nat.reduceAdd, List.getElem?_cons_zero, List.getElem?_cons_succ, List.set_cons_zero, List.set_cons_succ, Option.bind_some, Option.some.injEq, Option.isSome_some, exists_eq_left, exists_eq_left', exists_eq_right, exists_eq_right', exists_and_left, exists_and_right, exists_const, and_assoc, and_true, true_and, Bool.not_true, Bool.not_false, reduceCtorEq, Option.map_some, D.obj.injEq, D.int.injEq, D.bl.injEq, D.lst.injEq, D.tup.injEq, D.str.injEq, Cell.fz.injEq, Cell.ow.injEq, Cell.os.injEq, List.cons.injEq, bIf_t, bIf_f, if_true, if_false, ite_true, ite_false, Bool.false_eq_true, and_self, false_and, and_false, implies_true]
      refine ⟨_, ?_, d + 1, (outF ps rs (V, [])).2, (outF ps rs (V, [])).1, S', _, _, _, _, _, rfl, hS', l2, rfl⟩
      rw [if_neg rne]
      by_cases hn : (outF ps rs (V, [])).2 = []
      · rw [if_pos hn]
        rw [hn] at ev
        simp at ev
        omega
      · rw [if_neg hn]
        have : 0 < (outF ps rs (V, [])).2.length := List.length_pos_iff.mpr hn
        omega
  · have re : rs = [] := by
      cases rs with
      | nil => rfl
      | cons _ _ => simp at e
    subst re
    exact ⟨Nat.zero_le _, h [] l.done⟩
end D7
/-! the law's own rings, in plain words -/
namespace D7
def extOne (ps : List Pr) (w : List Int) : List (List Int) := (ps.filter fun p => p.1 == lastI w && !(w.contains p.2)).map fun p => w ++ [p.2]
def extAll (ps : List Pr) (ws : List (List Int)) : List (List Int) := ws.flatMap (extOne ps)
def waysK (n : Int) (ps : List Pr) : Nat → List (List Int)
  | 0 => (rgI 0 n.toNat).map fun k => [k]
  | k + 1 => extAll ps (waysK n ps k)
theorem mem_extOne {ps : List Pr} {w x : List Int} : x ∈ extOne ps w ↔ ∃ y, (lastI w, y) ∈ ps ∧ y ∉ w ∧ x = w ++ [y] := by
  unfold extOne
  rw [List.mem_map]
  constructor
  · rintro ⟨p, hp, rfl⟩
    obtain ⟨h1, h2⟩ := List.mem_filter.mp hp
    simp only [Bool.and_eq_true, beq_iff_eq, Bool.not_eq_true', List.contains_eq_mem, decide_eq_false_iff_not] at h2
    exact ⟨p.2, by rw [← h2.1]; exact h1, h2.2, rfl⟩
  · rintro ⟨y, h1, h2, rfl⟩
    exact ⟨(lastI w, y), List.mem_filter.mpr ⟨h1, by simp [h2]⟩, rfl⟩
structure SW (n : Int) (ps : List Pr) (k : Nat) (w : List Int) : Prop where
  way : Way ps w
  nd : w.Nodup
  len : w.length = k + 1
  inn : ∀ x ∈ w, 0 ≤ x ∧ x < n
theorem mem_waysK {n : Int} {ps : List Pr} (s : Sound n ps) : ∀ {k : Nat} {w : List Int}, w ∈ waysK n ps k ↔ SW n ps k w
  | 0, w => by
    unfold waysK
    rw [List.mem_map]
    constructor
    · rintro ⟨x, hx, rfl⟩
      have := rgI_mem hx
      exact ⟨trivial, by simp, rfl, fun y hy => by obtain rfl := List.mem_singleton.mp hy; omega⟩
    · rintro ⟨_, _, h3, h4⟩
      match w, h3, h4 with
      | [x], _, h4 =>
        have := h4 x List.mem_cons_self
        exact ⟨x, mem_rgI this.1 (by omega), rfl⟩
  | k + 1, w => by
    show w ∈ extAll ps (waysK n ps k) ↔ _
    unfold extAll
    rw [List.mem_flatMap]
    constructor
    · rintro ⟨u, hu, hw⟩
      obtain ⟨h1, h2, h3, h4⟩ := (mem_waysK s).mp hu
      obtain ⟨y, e1, e2, rfl⟩ := mem_extOne.mp hw
      have une : u ≠ [] := fun e => by rw [e] at h3; cases h3
      refine ⟨way_app.mpr ⟨h1, trivial, fun x z hx hz => ?_⟩, ?_, by rw [List.length_append, h3]; rfl, fun x hx => ?_⟩
      · rw [lastI_last une] at hx
        cases hx; cases hz
        exact e1
      · refine List.nodup_append.mpr ⟨h2, by simp, fun x hx z hz e => ?_⟩
        obtain rfl := List.mem_singleton.mp hz
        exact e2 (e ▸ hx)
      · rcases List.mem_append.mp hx with hx | hx
        · exact h4 x hx
        · obtain rfl := List.mem_singleton.mp hx
          have := s.ok _ e1
          exact ⟨this.2.2.2.1, this.2.2.2.2⟩
    · rintro ⟨h1, h2, h3, h4⟩
      obtain ⟨u, v, rfl, hu⟩ := split_last (d := k) h3
      have une : u ≠ [] := fun e => by rw [e] at hu; cases hu
      obtain ⟨y1, _, y3⟩ := way_app.mp h1
      obtain ⟨d1, _, d3⟩ := List.nodup_append.mp h2
      refine ⟨u, (mem_waysK s).mpr ⟨y1, d1, hu, fun x hx => h4 x (List.mem_append_left _ hx)⟩, mem_extOne.mpr ⟨v, y3 _ _ (lastI_last une) rfl, fun hv => d3 v hv v List.mem_cons_self rfl, rfl⟩⟩
theorem extOne_len {n : Int} {ps : List Pr} (s : Sound n ps) {k : Nat} {w : List Int} (h : SW n ps k w) : (extOne ps w).length ≤ n.toNat - (k + 1) := by
  have hl : (extOne ps w).length = ((ps.filter fun p => p.1 == lastI w && !(w.contains p.2)).map (·.2)).length := by
    unfold extOne; rw [List.length_map, List.length_map]
  rw [hl]
  have key : (w ++ (ps.filter fun p => p.1 == lastI w && !(w.contains p.2)).map (·.2)).Nodup := by
    refine List.nodup_append.mpr ⟨h.nd, ?_, fun x hx y hy e => ?_⟩
    · refine List.Pairwise.map _ (fun p q h => ?_) (List.Pairwise.and_mem.mp ((chain_pw s.ch).filter _))
      obtain ⟨hp, hq, hl⟩ := h
      have e1 := (List.mem_filter.mp hp).2
      have e2 := (List.mem_filter.mp hq).2
      simp only [Bool.and_eq_true, beq_iff_eq] at e1 e2
      intro e
      have : p = q := Prod.ext (e1.1.trans e2.1.symm) e
      subst this
      unfold ltP at hl
      rw [lex_irr] at hl
      cases hl
    · obtain ⟨p, hp, rfl⟩ := List.mem_map.mp hy
      have := (List.mem_filter.mp hp).2
      simp only [Bool.and_eq_true, Bool.not_eq_true', List.contains_eq_mem, decide_eq_false_iff_not] at this
      exact this.2 (e ▸ hx)
  have := nodup_le n.toNat _ key fun x hx => by
    rcases List.mem_append.mp hx with hx | hx
    · have := h.inn x hx; omega
    · obtain ⟨p, hp, rfl⟩ := List.mem_map.mp hx
      have := s.ok p (List.mem_filter.mp hp).1
      unfold okP at this
      omega
  rw [List.length_append, h.len] at this
  omega
def bnd (n : Nat) : Nat → Nat
  | 0 => n
  | k + 1 => bnd n k * (n - (k + 1))
theorem flat_len {m : Nat} (f : List Int → List (List Int)) : ∀ (ws : List (List Int)), (∀ w ∈ ws, (f w).length ≤ m) → (ws.flatMap f).length ≤ ws.length * m
  | [], _ => by simp
  | w :: ws, h => by
    rw [List.flatMap_cons, List.length_append, List.length_cons, Nat.succ_mul]
    have h1 := h w List.mem_cons_self
    have h2 := flat_len f ws fun x hx => h x (List.mem_cons_of_mem _ hx)
    omega
theorem waysK_len {n : Int} {ps : List Pr} (s : Sound n ps) : ∀ k, (waysK n ps k).length ≤ bnd n.toNat k
  | 0 => by unfold waysK bnd; rw [List.length_map, rgI_length]; exact Nat.le_refl _
  | k + 1 => by
    have h1 := flat_len (m := n.toNat - (k + 1)) (extOne ps) (waysK n ps k) fun w hw => extOne_len s ((mem_waysK s).mp hw)
    have h2 := waysK_len s k
    show (extAll ps (waysK n ps k)).length ≤ bnd n.toNat k * (n.toNat - (k + 1))
    exact Nat.le_trans h1 (Nat.mul_le_mul_right _ h2)
theorem bnd_le : ∀ n, n ≤ 6 → ∀ k, k ≤ 6 → bnd n k ≤ 720 := by decide
def closedB (ps : List Pr) (w : List Int) : Bool := ps.contains (lastI w, w.head?.getD 0)
def foundK (n : Int) (ps : List Pr) (k : Nat) : List (List Int) := (waysK n ps k).filter (closedB ps)
theorem mem_foundK {n : Int} {ps : List Pr} (s : Sound n ps) {k : Nat} {w : List Int} : w ∈ foundK n ps k ↔ Round ps w ∧ w.Nodup ∧ w.length = k + 1 := by
  unfold foundK
  rw [List.mem_filter, mem_waysK s]
  constructor
  · rintro ⟨⟨h1, h2, h3, h4⟩, h5⟩
    have ne : w ≠ [] := fun e => by rw [e] at h3; cases h3
    refine ⟨⟨ne, h1, fun x y hx hy => ?_⟩, h2, h3⟩
    unfold closedB at h5
    rw [lastI_last ne] at hx
    cases hx
    rw [hy] at h5
    simpa using h5
  · rintro ⟨h1, h2, h3⟩
    refine ⟨⟨h1.way, h2, h3, h1.mem s⟩, ?_⟩
    unfold closedB
    cases w with
    | nil => exact absurd rfl h1.ne
    | cons x r =>
      have := h1.back _ x (lastI_last h1.ne) rfl
      simpa using this
/-- below a round lies a round that meets itself nowhere -/
theorem simple_round {ps : List Pr} : ∀ (m : Nat) (c : List Int), c.length = m → Round ps c → ∃ c', Round ps c' ∧ c'.Nodup ∧ c'.length ≤ c.length := fun m => by
  induction m using Nat.strongRecOn with
  | _ m ih =>
    intro c hm hr
    by_cases h : c.Nodup
    · exact ⟨c, hr, h, Nat.le_refl _⟩
    · obtain ⟨c1, h1, h2⟩ := way_cut hr.way h
      obtain ⟨c2, k1, k2, k3⟩ := ih _ (by omega) c1 rfl h1
      exact ⟨c2, k1, k2, by omega⟩
theorem rings_hit {n : Int} {ps : List Pr} (s : Sound n ps) {k : Nat} (no : ∀ j, j < k → foundK n ps j = []) (hne : foundK n ps k ≠ []) : Rings ps (sortR (foundK n ps k)) := by
  have hp : (sortR (foundK n ps k)).Perm (foundK n ps k) := List.mergeSort_perm _ _
  cases hs : sortR (foundK n ps k) with
  | nil =>
    rw [hs] at hp
    exact absurd hp.nil_eq.symm hne
  | cons c rest =>
    have hmem : ∀ {x}, x ∈ c :: rest ↔ x ∈ foundK n ps k := fun {x} => by rw [← hs]; exact hp.mem_iff
    obtain ⟨h1, h2, h3⟩ := (mem_foundK s).mp (hmem.mp List.mem_cons_self)
    have low : ∀ c', Round ps c' → k + 1 ≤ c'.length := fun c' hr => by
      obtain ⟨c2, k1, k2, k3⟩ := simple_round _ c' rfl hr
      by_cases hlt : c2.length < k + 1
      · have h2l := k1.two s
        have : c2 ∈ foundK n ps (c2.length - 1) := (mem_foundK s).mpr ⟨k1, k2, by omega⟩
        rw [no _ (by omega)] at this
        cases this
      · omega
    refine .inr ⟨c, rest, rfl, h1, fun c' hr => ?_⟩
    have hl := low c' hr
    by_cases e : c'.length = k + 1
    · refine .inr ⟨by omega, ?_⟩
      have nd : c'.Nodup := by
        by_cases h : c'.Nodup
        · exact h
        · obtain ⟨c1, k1, k2⟩ := way_cut hr.way h
          have := low c1 k1
          omega
      have hm := hmem.mpr ((mem_foundK s).mpr ⟨hr, nd, e⟩)
      have srt : (c :: rest).Pairwise fun a b => decide (a ≤ b) = true := by
        rw [← hs]
        refine List.pairwise_mergeSort (fun x y z h k => ?_) (fun x y => ?_) _
        · exact decide_eq_true (List.le_trans (of_decide_eq_true h) (of_decide_eq_true k))
        · rcases List.le_total x y with h | h
          · rw [decide_eq_true h]; rfl
          · rw [decide_eq_true h, Bool.or_true]
      rcases List.mem_cons.mp hm with rfl | hm
      · exact lex_irr _
      · have := of_decide_eq_true ((List.pairwise_cons.mp srt).1 c' hm)
        rw [← Bool.not_eq_true, lexLt_iff, List.not_lt]
        exact this
    · exact .inl (by omega)
theorem rings_none {n : Int} {ps : List Pr} (s : Sound n ps) (no : ∀ j, j < n.toNat → foundK n ps j = []) : Rings ps [] := .inl ⟨rfl, fun c hr => by
  obtain ⟨c2, k1, k2, k3⟩ := simple_round _ c rfl hr
  have h2 := k1.two s
  have h3 := nodup_le n.toNat c2 k2 fun x hx => by have := k1.mem s x hx; omega
  have : c2 ∈ foundK n ps (c2.length - 1) := (mem_foundK s).mpr ⟨k1, k2, by omega⟩
  rw [no _ (by omega)] at this
  cases this⟩
end D7
namespace D7
open PySem PySem.Spec PyProof.Rows L2
theorem inD_int (y : Int) : ∀ w : List Int, inD (.int y) (w.map .int) = w.contains y
  | [] => rfl
  | x :: w => by
    have ih := inD_int y w
    unfold inD at ih ⊢
    rw [List.map_cons, List.any_cons, ih, List.contains_cons]
    have : eqD (.int x) (.int y) = (y == x) := by simp [eqD, eq_comm, Bool.beq_eq_decide_eq]
    rw [this]
theorem inD_pair (u v : Int) : ∀ ps : List Pr, inD (.tup [.int u, .int v]) (ps.map pD) = ps.contains (u, v)
  | [] => rfl
  | p :: ps => by
    have ih := inD_pair u v ps
    unfold inD at ih ⊢
    rw [List.map_cons, List.any_cons, ih, List.contains_cons]
    have : eqD (pD p) (.tup [.int u, .int v]) = ((u, v) == p) := by
      obtain ⟨a, b⟩ := p
      simp only [pD, eqD, eqDs, Bool.and_true]
      rw [Bool.eq_iff_iff]
      simp only [Bool.and_eq_true, beq_iff_eq, Prod.mk.injEq]
      constructor
      · rintro ⟨rfl, rfl⟩; exact ⟨rfl, rfl⟩
      · rintro ⟨rfl, rfl⟩; exact ⟨rfl, rfl⟩
    rw [this]
theorem atI_lastI {w : List Int} (h : w ≠ []) : atI (w.map D.int) (-1) = some (.int (lastI w)) := by
  obtain ⟨u, hu⟩ := snoc_of h
  conv => lhs; rw [hu]
  rw [List.map_append]
  exact atI_last
theorem lc_one {a : Ad} {c0 c1 c2 c3 c4 c5 c6 c7 c9 : Cell} {kk : List D → List Cell → Prop} : ∀ (ks : List Int) (acc : List D) (z : Cell), acc.length + ks.length ≤ 100 →
    (∀ z, kk (acc ++ (ks.map fun k => [k]).map iD) [c0, c1, c2, c3, c4, c5, c6, c7, z, c9]) →
    lcW (gNm 8) (t__law_rings_i1 a) (t__law_rings_e1 a) [8] kk (ks.map .int) acc [c0, c1, c2, c3, c4, c5, c6, c7, z, c9]
  | [], acc, z, _, h => by simpa [lcW] using h z
  | k :: ks, acc, z, hl, h => by
    have hl2 : acc.length + (ks.length + 1) ≤ 100 := by simpa using hl
    have ih1 := lc_one (a := a) (c0 := c0) (c1 := c1) (c2 := c2) (c3 := c3) (c4 := c4) (c5 := c5) (c6 := c6) (c7 := c7) (c9 := c9) (kk := kk) ks (acc ++ [.tup [.int k]]) .off (by simp; omega) (by simpa [iD] using h)
    show gNm 8 _ _ _ _
    have sl := sizeLine_eq
    generalize hF : lcW (gNm 8) (t__law_rings_i1 a) (t__law_rings_e1 a) [8] kk (ks.map .int) = F at ih1 ⊢
    unfold t__law_rings_i1 t__law_rings_e1
    simp only [sSeq, sIf, sRet, sRetN, sNx, sBk, sCt, sSet, sDrop, sAug, sAsg, sPar, sRaise, sSetF, cOf, cLst, cCb, cOp, dOf, dTest, dOp, dUn, dChain, dNot, dNotV, dAnd, dOr, dAndV, dOrV, dIf, dTru, dVar, dC, dCons, dNil, dTup, dLst, dCall, dCb, dIsT, dFld, dProp, dMake, dMethO, dMut, dCut, dTupR, dHeard, dnC, hSl, hOf, hNil, hCons, oSome, oNone, iSeq, iRng1D, iRng2D, gNm, gTp, gC0, gN0, gSto, dYes, kI0, kI, kU, kAdd, kMul, kEq, kNe, kLt, kIs, kIn, kInS, kIx, kLen, kList, kTuple, kInt, kRep, kAppend, kPopAt, kSAdd, kTru_bl, kTru_int, kTru_non, kTru_lst, kTru_tup, kTru_dic, isCell, peek, res, ress, cellD, startC, seqD, List.map_cons, List.map_nil, List.length_cons, List.length_nil, List.cons_append, List.nil_append, List.append_nil, List.replicate_succ, List.replicate_zero, Nat.reduceSub, Nat.reduceAdd, List.getElem?_cons_zero, List.getElem?_cons_succ, List.set_cons_zero, List.set_cons_succ, Option.bind_some, Option.some.injEq, Option.isSome_some, exists_eq_left, exists_eq_left', exists_eq_right, exists_eq_right', exists_and_left, exists_and_right, exists_const, and_assoc, and_true, true_and, Bool.not_true, Bool.not_false, reduceCtorEq, Option.map_some, D.obj.injEq, D.int.injEq, D.bl.injEq, D.lst.injEq, D.tup.injEq, D.str.injEq, Cell.fz.injEq, Cell.ow.injEq, Cell.os.injEq, List.cons.injEq, bIf_t, bIf_f, if_true, if_false, ite_true, ite_false, Bool.false_eq_true, and_self, false_and, and_false, implies_true, wipeC]
    exact ⟨by decide, by omega, ih1⟩
theorem lc_ext {a : Ad} {w : List Int} {c0 c1 c2 c3 c4 c5 c6 c8 : Cell} {kk : List D → List Cell → Prop} (wne : w ≠ []) (hw : w.length ≤ 100) : ∀ (ps : List Pr) (acc : List D) (z : Cell), acc.length + ps.length ≤ 5000 →
    (∀ z, kk (acc ++ (extOne ps w).map iD) [c0, c1, c2, c3, c4, c5, c6, .fz (iD w), c8, z]) →
    lcW (gNm 9) (t__law_rings_i2 a) (t__law_rings_e2 a) [9] kk (ps.map pD) acc [c0, c1, c2, c3, c4, c5, c6, .fz (iD w), c8, z]
  | [], acc, z, _, h => by simpa [lcW, extOne] using h z
  | p :: ps, acc, z, hl, h => by
    have hl2 : acc.length + (ps.length + 1) ≤ 5000 := by simpa using hl
    have ih1 := lc_ext (a := a) (c0 := c0) (c1 := c1) (c2 := c2) (c3 := c3) (c4 := c4) (c5 := c5) (c6 := c6) (c8 := c8) (kk := kk) wne hw ps (acc ++ [iD (w ++ [p.2])]) .off (by simp; omega)
    have ih2 := lc_ext (a := a) (c0 := c0) (c1 := c1) (c2 := c2) (c3 := c3) (c4 := c4) (c5 := c5) (c6 := c6) (c8 := c8) (kk := kk) wne hw ps acc .off (by omega)
    show gNm 9 _ _ _ _
    have sl := sizeLine_eq
    generalize hF : lcW (gNm 9) (t__law_rings_i2 a) (t__law_rings_e2 a) [9] kk (ps.map pD) = F at ih1 ih2 ⊢
    unfold t__law_rings_i2 t__law_rings_e2
    have a1 := atI_lastI wne
    have skip : (p.1 == lastI w && !(w.contains p.2)) = false → F acc [c0, c1, c2, c3, c4, c5, c6, .fz (iD w), c8, .off] := fun e => ih2 fun z => by
      have := h z
      unfold extOne at this ⊢
      rw [List.filter_cons_of_neg (by rw [e]; exact Bool.false_ne_true)] at this
      exact this
    have takeIt : (p.1 == lastI w && !(w.contains p.2)) = true → F (acc ++ [iD (w ++ [p.2])]) [c0, c1, c2, c3, c4, c5, c6, .fz (iD w), c8, .off] := fun e => ih1 fun z => by
      have := h z
      unfold extOne at this ⊢
      rw [List.filter_cons_of_pos (p := fun z : Pr => z.1 == lastI w && !(w.contains z.2)) (a := p) (l := ps) e] at this
      simpa using this
    simp only [iD] at skip takeIt ⊢
    have p0 : atI [D.int p.1, D.int p.2] 0 = some (.int p.1) := atI_0
    have p1 : atI [D.int p.1, D.int p.2] 1 = some (.int p.2) := atI_1
    simp only [sSeq, sIf, sRet, sRetN, sNx, sBk, sCt, sSet, sDrop, sAug, sAsg, sPar, sRaise, sSetF, cOf, cLst, cCb, cOp, dOf, dTest, dOp, dUn, dChain, dNot, dNotV, dAnd, dOr, dAndV, dOrV, dIf, dTru, dVar, dC, dCons, dNil, dTup, dLst, dCall, dCb, dIsT, dFld, dProp, dMake, dMethO, dMut, dCut, dTupR, dHeard, dnC, hSl, hOf, hNil, hCons, oSome, oNone, iSeq, iRng1D, iRng2D, gNm, gTp, gC0, gN0, gSto, dYes, kI0, kI, kU, kAdd, kMul, kEq, kNe, kLt, kIs, kIn, kInS, kIx, kLen, kList, kTuple, kInt, kRep, kAppend, kPopAt, kSAdd, kTru_bl, kTru_int, kTru_non, kTru_lst, kTru_tup, kTru_dic, isCell, peek, res, ress, cellD, startC, seqD, List.map_cons, List.map_nil, List.length_cons, List.length_nil, List.cons_append, List.nil_append, List.append_nil, List.replicate_succ, List.replicate_zero, Nat.reduceSub, Nat.reduceAdd, List.getElem?_cons_zero, List.getElem?_cons_succ, List.set_cons_zero, List.set_cons_succ, Option.bind_some, Option.some.injEq, Option.isSome_some, exists_eq_left, exists_eq_left', exists_eq_right, exists_eq_right', exists_and_left, exists_and_right, exists_const, and_assoc, and_true, true_and, Bool.not_true, Bool.not_false, reduceCtorEq, Option.map_some, D.obj.injEq, D.int.injEq, D.bl.injEq, D.lst.injEq, D.tup.injEq, D.str.injEq, Cell.fz.injEq, Cell.ow.injEq, Cell.os.injEq, List.cons.injEq, bIf_t, bIf_f, if_true, if_false, ite_true, ite_false, Bool.false_eq_true, and_self, false_and, and_false, implies_true, pD, a1, p0, p1]
    simp only [wipeC, okD, eqD, inD_int, List.length_map, sSeq, sIf, sRet, sRetN, sNx, sBk, sCt, sSet, sDrop, sAug, sAsg, sPar, sRaise, sSetF, cOf, cLst, cCb, cOp, dOf, dTest, dOp, dUn, dChain, dNot, dNotV, dAnd, dOr, dAndV, dOrV, dIf, dTru, dVar, dC, dCons, dNil, dTup, dLst, dCall, dCb, dIsT, dFld, dProp, dMake, dMethO, dMut, dCut, dTupR, dHeard, dnC, hSl, hOf, hNil, hCons, oSome, oNone, iSeq, iRng1D, iRng2D, gNm, gTp, gC0, gN0, gSto, dYes, kI0, kI, kU, kAdd, kMul, kEq, kNe, kLt, kIs, kIn, kInS, kIx, kLen, kList, kTuple, kInt, kRep, kAppend, kPopAt, kSAdd, kTru_bl, kTru_int, kTru_non, kTru_lst, kTru_tup, kTru_dic, isCell, peek, res, ress, cellD, startC, seqD, List.map_cons, List.map_nil, List.length_cons, List.length_nil, List.cons_append, List.nil_append, List.append_nil, List.replicate_succ, List.replicate_zero, Nat.reduceSub, Nat.reduceAdd, List.getElem?_cons_zero, List.getElem?_cons_succ, List.set_cons_zero, List.set_cons_succ, Option.bind_some, Option.some.injEq, Option.isSome_some, exists_eq_left, exists_eq_left', exists_eq_right, exists_eq_right', exists_and_left, exists_and_right, exists_const, and_assoc, and_true, true_and, Bool.not_true, Bool.not_false, reduceCtorEq, Option.map_some, D.obj.injEq, D.int.injEq, D.bl.injEq, D.lst.injEq, D.tup.injEq, D.str.injEq, Cell.fz.injEq, Cell.ow.injEq, Cell.os.injEq, List.cons.injEq, bIf_t, bIf_f, if_true, if_false, ite_true, ite_false, Bool.false_eq_true, and_self, false_and, and_false, implies_true]
    refine bIf_of (fun e1 => ?_) fun e1 => skip (by rw [e1]; rfl)
    have oki : okDs 50 (w.map D.int) = true := okDs_ints _ _
    simp only [oki, sSeq, sIf, sRet, sRetN, sNx, sBk, sCt, sSet, sDrop, sAug, sAsg, sPar, sRaise, sSetF, cOf, cLst, cCb, cOp, dOf, dTest, dOp, dUn, dChain, dNot, dNotV, dAnd, dOr, dAndV, dOrV, dIf, dTru, dVar, dC, dCons, dNil, dTup, dLst, dCall, dCb, dIsT, dFld, dProp, dMake, dMethO, dMut, dCut, dTupR, dHeard, dnC, hSl, hOf, hNil, hCons, oSome, oNone, iSeq, iRng1D, iRng2D, gNm, gTp, gC0, gN0, gSto, dYes, kI0, kI, kU, kAdd, kMul, kEq, kNe, kLt, kIs, kIn, kInS, kIx, kLen, kList, kTuple, kInt, kRep, kAppend, kPopAt, kSAdd, kTru_bl, kTru_int, kTru_non, kTru_lst, kTru_tup, kTru_dic, isCell, peek, res, ress, cellD, startC, seqD, List.map_cons, List.map_nil, List.length_cons, List.length_nil, List.cons_append, List.nil_append, List.append_nil, List.replicate_succ, List.replicate_zero, Nat.reduceSub, Nat.reduceAdd, List.getElem?_cons_zero, List.getElem?_cons_succ, List.set_cons_zero, List.set_cons_succ, Option.bind_some, Option.some.injEq, Option.isSome_some, exists_eq_left, exists_eq_left', exists_eq_right, exists_eq_right', exists_and_left, exists_and_right, exists_const, and_assoc, and_true, true_and, Bool.not_true, Bool.not_false, reduceCtorEq, Option.map_some, D.obj.injEq, D.int.injEq, D.bl.injEq, D.lst.injEq, D.tup.injEq, D.str.injEq, Cell.fz.injEq, Cell.ow.injEq, Cell.os.injEq, List.cons.injEq, bIf_t, bIf_f, if_true, if_false, ite_true, ite_false, Bool.false_eq_true, and_self, false_and, and_false, implies_true]
    refine bIf_of (fun e2 => ⟨by decide, by omega, by omega, ?_⟩) fun e2 => skip ?_
    · have e3 : w.contains p.2 = false := by simpa using e2
      have := takeIt (by rw [e1, e3]; rfl)
      rw [List.map_append] at this
      exact this
    · have e3 : w.contains p.2 = true := by simpa using e2
      rw [e3, Bool.not_true, Bool.and_false]
theorem loop_ext {a : Ad} {n : Int} {ps : List Pr} {k : DK} {ex : XD} {c0 c2 c3 c4 c5 c8 : Cell} (hps : ps.length ≤ 4000) : ∀ (ws L : List (List Int)) (c7 : Cell), (∀ w ∈ ws, w ≠ [] ∧ w.length ≤ 100) → L.length + (extAll ps ws).length ≤ 5000 →
    (∀ c7 c9, k.nx [c0, .fz (nD ps), c2, c3, c4, c5, .fz (.lst ((L ++ extAll ps ws).map iD)), c7, c8, c9]) → ∀ c9,
    forW (gNm 7) (t__law_rings_b1 a) k ex (ws.map iD) [c0, .fz (nD ps), c2, c3, c4, c5, .fz (.lst (L.map iD)), c7, c8, c9]
  | [], L, c7, _, _, h, c9 => by simpa [extAll, forW] using h c7 c9
  | w :: ws, L, c7, hw, hl, h, c9 => by
    obtain ⟨wne, wl⟩ := hw w List.mem_cons_self
    have el : extAll ps (w :: ws) = extOne ps w ++ extAll ps ws := by unfold extAll; rw [List.flatMap_cons]
    rw [el, List.length_append] at hl
    have ih := loop_ext (a := a) (n := n) (k := k) (ex := ex) (c0 := c0) (c2 := c2) (c3 := c3) (c4 := c4) (c5 := c5) (c8 := c8) hps ws (L ++ extOne ps w) (.fz (iD w)) (fun x hx => hw x (List.mem_cons_of_mem _ hx)) (by rw [List.length_append]; omega) (fun c7 c9 => by
      have := h c7 c9
      rw [el, ← List.append_assoc] at this
      exact this)
    show gNm 7 _ _ _ _
    have sl := sizeLine_eq
    generalize hF : forW (gNm 7) (t__law_rings_b1 a) k ex (ws.map iD) = F at ih ⊢
    unfold t__law_rings_b1
    simp only [sSeq, sIf, sRet, sRetN, sNx, sBk, sCt, sSet, sDrop, sAug, sAsg, sPar, sRaise, sSetF, cOf, cLst, cCb, cOp, dOf, dTest, dOp, dUn, dChain, dNot, dNotV, dAnd, dOr, dAndV, dOrV, dIf, dTru, dVar, dC, dCons, dNil, dTup, dLst, dCall, dCb, dIsT, dFld, dProp, dMake, dMethO, dMut, dCut, dTupR, dHeard, dnC, hSl, hOf, hNil, hCons, oSome, oNone, iSeq, iRng1D, iRng2D, gNm, gTp, gC0, gN0, gSto, dYes, kI0, kI, kU, kAdd, kMul, kEq, kNe, kLt, kIs, kIn, kInS, kIx, kLen, kList, kTuple, kInt, kRep, kAppend, kPopAt, kSAdd, kTru_bl, kTru_int, kTru_non, kTru_lst, kTru_tup, kTru_dic, isCell, peek, res, ress, cellD, startC, seqD, List.map_cons, List.map_nil, List.length_cons, List.length_nil, List.cons_append, List.nil_append, List.append_nil, List.replicate_succ, List.replicate_zero, Nat.reduceSub, Nat.reduceAdd, List.getElem?_cons_zero, List.getElem?_cons_succ, List.set_cons_zero, List.set_cons_succ, Option.bind_some, Option.some.injEq, Option.isSome_some, exists_eq_left, exists_eq_left', exists_eq_right, exists_eq_right', exists_and_left, exists_and_right, exists_const, and_assoc, and_true, true_and, Bool.not_true, Bool.not_false, reduceCtorEq, Option.map_some, D.obj.injEq, D.int.injEq, D.bl.injEq, D.lst.injEq, D.tup.injEq, D.str.injEq, Cell.fz.injEq, Cell.ow.injEq, Cell.os.injEq, List.cons.injEq, bIf_t, bIf_f, if_true, if_false, ite_true, ite_false, Bool.false_eq_true, and_self, false_and, and_false, implies_true, nD, cLc, wipeC]
    refine lc_ext wne wl ps [] .off (by simp; omega) fun z => ?_
    simp only [sSeq, sIf, sRet, sRetN, sNx, sBk, sCt, sSet, sDrop, sAug, sAsg, sPar, sRaise, sSetF, cOf, cLst, cCb, cOp, dOf, dTest, dOp, dUn, dChain, dNot, dNotV, dAnd, dOr, dAndV, dOrV, dIf, dTru, dVar, dC, dCons, dNil, dTup, dLst, dCall, dCb, dIsT, dFld, dProp, dMake, dMethO, dMut, dCut, dTupR, dHeard, dnC, hSl, hOf, hNil, hCons, oSome, oNone, iSeq, iRng1D, iRng2D, gNm, gTp, gC0, gN0, gSto, dYes, kI0, kI, kU, kAdd, kMul, kEq, kNe, kLt, kIs, kIn, kInS, kIx, kLen, kList, kTuple, kInt, kRep, kAppend, kPopAt, kSAdd, kTru_bl, kTru_int, kTru_non, kTru_lst, kTru_tup, kTru_dic, isCell, peek, res, ress, cellD, startC, seqD, List.map_cons, List.map_nil, List.length_cons, List.length_nil, List.cons_append, List.nil_append, List.append_nil, List.replicate_succ, List.replicate_zero, Nat.reduceSub, Nat.reduceAdd, List.getElem?_cons_zero, List.getElem?_cons_succ, List.set_cons_zero, List.set_cons_succ, Option.bind_some, Option.some.injEq, Option.isSome_some, exists_eq_left, exists_eq_left', exists_eq_right, exists_eq_right', exists_and_left, exists_and_right, exists_const, and_assoc, and_true, true_and, Bool.not_true, Bool.not_false, reduceCtorEq, Option.map_some, D.obj.injEq, D.int.injEq, D.bl.injEq, D.lst.injEq, D.tup.injEq, D.str.injEq, Cell.fz.injEq, Cell.ow.injEq, Cell.os.injEq, List.cons.injEq, bIf_t, bIf_f, if_true, if_false, ite_true, ite_false, Bool.false_eq_true, and_self, false_and, and_false, implies_true, unwipe, keepF, List.length_map]
    refine ⟨by omega, ?_⟩
    rw [← List.map_append]
    exact ih _
theorem loop_ways {a : Ad} {n : Int} {ps : List Pr} {k : DK} {ex : XD} {c0 c2 c3 c8 : Cell} (s : Sound n ps) (hps : ps.length ≤ 4000) (h6 : n ≤ 6) : ∀ (ts : List D) (j : Nat) (c4 c5 c6 c7 c9 : Cell), (c4 = .ow ((waysK n ps j).map iD) ∨ c4 = .fz (.lst ((waysK n ps j).map iD))) → j + ts.length ≤ 6 →
    (∀ c4 c5 c6 c7 c9, (c4 = .ow ((waysK n ps (j + ts.length)).map iD) ∨ c4 = .fz (.lst ((waysK n ps (j + ts.length)).map iD))) → k.nx [c0, .fz (nD ps), c2, c3, c4, c5, c6, c7, c8, c9]) →
    forW (gNm 5) (t__law_rings_b2 a) k ex ts [c0, .fz (nD ps), c2, c3, c4, c5, c6, c7, c8, c9]
  | [], j, c4, c5, c6, c7, c9, hc, _, h => h c4 c5 c6 c7 c9 hc
  | t :: ts, j, c4, c5, c6, c7, c9, hc, hj, h => by
    have hj2 : j + (ts.length + 1) ≤ 6 := by simpa using hj
    have ih := fun c4 c6 c7 c9 hc => loop_ways (a := a) (k := k) (ex := ex) (c0 := c0) (c2 := c2) (c3 := c3) (c8 := c8) s hps h6 ts (j + 1) c4 (.fz t) c6 c7 c9 hc (by omega) (fun c4 c5 c6 c7 c9 hc => h c4 c5 c6 c7 c9 (by
      have e : j + (t :: ts).length = j + 1 + ts.length := by simp only [List.length_cons]; omega
      rw [e]
      exact hc))
    show gNm 5 _ _ _ _
    have sl := sizeLine_eq
    generalize hF : forW (gNm 5) (t__law_rings_b2 a) k ex ts = F at ih ⊢
    have b1 : (waysK n ps (j + 1)).length ≤ 720 := Nat.le_trans (waysK_len s (j + 1)) (bnd_le n.toNat (by omega) (j + 1) (by omega))
    rcases hc with rfl | rfl
    all_goals
      unfold t__law_rings_b2
      simp only [sSeq, sIf, sRet, sRetN, sNx, sBk, sCt, sSet, sDrop, sAug, sAsg, sPar, sRaise, sSetF, cOf, cLst, cCb, cOp, dOf, dTest, dOp, dUn, dChain, dNot, dNotV, dAnd, dOr, dAndV, dOrV, dIf, dTru, dVar, dC, dCons, dNil, dTup, dLst, dCall, dCb, dIsT, dFld, dProp, dMake, dMethO, dMut, dCut, dTupR, dHeard, dnC, hSl, hOf, hNil, hCons, oSome, oNone, iSeq, iRng1D, iRng2D, gNm, gTp, gC0, gN0, gSto, dYes, kI0, kI, kU, kAdd, kMul, kEq, kNe, kLt, kIs, kIn, kInS, kIx, kLen, kList, kTuple, kInt, kRep, kAppend, kPopAt, kSAdd, kTru_bl, kTru_int, kTru_non, kTru_lst, kTru_tup, kTru_dic, isCell, peek, res, ress, cellD, startC, seqD, List.map_cons, List.map_nil, List.length_cons, List.length_nil, List.cons_append, List.nil_append, List.append_nil, List.replicate_succ, List.replicate_zero, Nat.reduceSub, Nat.reduceAdd, List.getElem?_cons_zero, List.getElem?_cons_succ, List.set_cons_zero, List.set_cons_succ, Option.bind_some, Option.some.injEq, Option.isSome_some, exists_eq_left, exists_eq_left', exists_eq_right, exists_eq_right', exists_and_left, exists_and_right, exists_const, and_assoc, and_true, true_and, Bool.not_true, Bool.not_false, reduceCtorEq, Option.map_some, D.obj.injEq, D.int.injEq, D.bl.injEq, D.lst.injEq, D.tup.injEq, D.str.injEq, Cell.fz.injEq, Cell.ow.injEq, Cell.os.injEq, List.cons.injEq, bIf_t, bIf_f, if_true, if_false, ite_true, ite_false, Bool.false_eq_true, and_self, false_and, and_false, implies_true, sFor]
      refine ⟨Nat.zero_le _, ?_⟩
      refine loop_ext (n := n) hps (waysK n ps j) [] c7 (fun w hw => ?_) (by simpa [waysK] using (by omega : (waysK n ps (j + 1)).length ≤ 5000)) (fun c7 c9 => ?_) c9
      · have := (mem_waysK s).mp hw
        exact ⟨fun e => (by have h2 := this.len; rw [e] at h2; cases h2), by rw [this.len]; omega⟩
      · simp only [sSeq, sIf, sRet, sRetN, sNx, sBk, sCt, sSet, sDrop, sAug, sAsg, sPar, sRaise, sSetF, cOf, cLst, cCb, cOp, dOf, dTest, dOp, dUn, dChain, dNot, dNotV, dAnd, dOr, dAndV, dOrV, dIf, dTru, dVar, dC, dCons, dNil, dTup, dLst, dCall, dCb, dIsT, dFld, dProp, dMake, dMethO, dMut, dCut, dTupR, dHeard, dnC, hSl, hOf, hNil, hCons, oSome, oNone, iSeq, iRng1D, iRng2D, gNm, gTp, gC0, gN0, gSto, dYes, kI0, kI, kU, kAdd, kMul, kEq, kNe, kLt, kIs, kIn, kInS, kIx, kLen, kList, kTuple, kInt, kRep, kAppend, kPopAt, kSAdd, kTru_bl, kTru_int, kTru_non, kTru_lst, kTru_tup, kTru_dic, isCell, peek, res, ress, cellD, startC, seqD, List.map_cons, List.map_nil, List.length_cons, List.length_nil, List.cons_append, List.nil_append, List.append_nil, List.replicate_succ, List.replicate_zero, Nat.reduceSub, Nat.reduceAdd, List.getElem?_cons_zero, List.getElem?_cons_succ, List.set_cons_zero, List.set_cons_succ, Option.bind_some, Option.some.injEq, Option.isSome_some, exists_eq_left, exists_eq_left', exists_eq_right, exists_eq_right', exists_and_left, exists_and_right, exists_const, and_assoc, and_true, true_and, Bool.not_true, Bool.not_false, reduceCtorEq, Option.map_some, D.obj.injEq, D.int.injEq, D.bl.injEq, D.lst.injEq, D.tup.injEq, D.str.injEq, Cell.fz.injEq, Cell.ow.injEq, Cell.os.injEq, List.cons.injEq, bIf_t, bIf_f, if_true, if_false, ite_true, ite_false, Bool.false_eq_true, and_self, false_and, and_false, implies_true, kCut]
        have ec : cutD ((waysK n ps (j + 1)).map iD) none (some 4000) = (waysK n ps (j + 1)).map iD := by
          unfold cutD HT.sIx
          simp only [List.length_map, List.drop_zero]
          rw [if_neg (by omega)]
          refine List.take_of_length_le ?_
          rw [List.length_map]
          have : (4000 : Int).toNat = 4000 := rfl
          rw [this]
          omega
        show F [c0, .fz (nD ps), c2, c3, .fz (.lst (cutD ((waysK n ps (j + 1)).map iD) none (some 4000))), .fz t, .fz (.lst ((waysK n ps (j + 1)).map iD)), c7, c8, c9]
        rw [ec]
        exact ih _ _ c7 c9 (.inr rfl)
theorem lc_found {a : Ad} {n : Int} {ps : List Pr} {c0 c2 c3 c4 c5 c6 c8 c9 : Cell} {kk : List D → List Cell → Prop} : ∀ (ws : List (List Int)) (acc : List D) (z : Cell), (∀ w ∈ ws, w ≠ []) → acc.length + ws.length ≤ 5000 →
    (∀ z, kk (acc ++ (ws.filter (closedB ps)).map iD) [c0, .fz (nD ps), c2, c3, c4, c5, c6, z, c8, c9]) →
    lcW (gNm 7) (t__law_rings_i3 a) (t__law_rings_e3 a) [7] kk (ws.map iD) acc [c0, .fz (nD ps), c2, c3, c4, c5, c6, z, c8, c9]
  | [], acc, z, _, _, h => by simpa [lcW] using h z
  | w :: ws, acc, z, hw, hl, h => by
    have hl2 : acc.length + (ws.length + 1) ≤ 5000 := by simpa using hl
    have wne := hw w List.mem_cons_self
    have ih1 := lc_found (a := a) (n := n) (ps := ps) (c0 := c0) (c2 := c2) (c3 := c3) (c4 := c4) (c5 := c5) (c6 := c6) (c8 := c8) (c9 := c9) (kk := kk) ws (acc ++ [iD w]) .off (fun x hx => hw x (List.mem_cons_of_mem _ hx)) (by simp; omega)
    have ih2 := lc_found (a := a) (n := n) (ps := ps) (c0 := c0) (c2 := c2) (c3 := c3) (c4 := c4) (c5 := c5) (c6 := c6) (c8 := c8) (c9 := c9) (kk := kk) ws acc .off (fun x hx => hw x (List.mem_cons_of_mem _ hx)) (by omega)
    show gNm 7 _ _ _ _
    have sl := sizeLine_eq
    generalize hF : lcW (gNm 7) (t__law_rings_i3 a) (t__law_rings_e3 a) [7] kk (ws.map iD) = F at ih1 ih2 ⊢
    have a1 := atI_lastI wne
    have a0 : atI (w.map D.int) 0 = some (.int (w.head?.getD 0)) := by
      cases w with
      | nil => exact absurd rfl wne
      | cons x r => exact atI_0
    have ok1 : okD 50 (.tup [.int (lastI w), .int (w.head?.getD 0)]) = true := by simp [okD, okDs]
    have ok2 : okDs 50 (ps.map pD) = true := okDs_pD 49 ps
    unfold t__law_rings_i3 t__law_rings_e3
    simp only [sSeq, sIf, sRet, sRetN, sNx, sBk, sCt, sSet, sDrop, sAug, sAsg, sPar, sRaise, sSetF, cOf, cLst, cCb, cOp, dOf, dTest, dOp, dUn, dChain, dNot, dNotV, dAnd, dOr, dAndV, dOrV, dIf, dTru, dVar, dC, dCons, dNil, dTup, dLst, dCall, dCb, dIsT, dFld, dProp, dMake, dMethO, dMut, dCut, dTupR, dHeard, dnC, hSl, hOf, hNil, hCons, oSome, oNone, iSeq, iRng1D, iRng2D, gNm, gTp, gC0, gN0, gSto, dYes, kI0, kI, kU, kAdd, kMul, kEq, kNe, kLt, kIs, kIn, kInS, kIx, kLen, kList, kTuple, kInt, kRep, kAppend, kPopAt, kSAdd, kTru_bl, kTru_int, kTru_non, kTru_lst, kTru_tup, kTru_dic, isCell, peek, res, ress, cellD, startC, seqD, List.map_cons, List.map_nil, List.length_cons, List.length_nil, List.cons_append, List.nil_append, List.append_nil, List.replicate_succ, List.replicate_zero, Nat.reduceSub, Nat.reduceAdd, List.getElem?_cons_zero, List.getElem?_cons_succ, List.set_cons_zero, List.set_cons_succ, Option.bind_some, Option.some.injEq, Option.isSome_some, exists_eq_left, exists_eq_left', exists_eq_right, exists_eq_right', exists_and_left, exists_and_right, exists_const, and_assoc, and_true, true_and, Bool.not_true, Bool.not_false, reduceCtorEq, Option.map_some, D.obj.injEq, D.int.injEq, D.bl.injEq, D.lst.injEq, D.tup.injEq, D.str.injEq, Cell.fz.injEq, Cell.ow.injEq, Cell.os.injEq, List.cons.injEq, bIf_t, bIf_f, if_true, if_false, ite_true, ite_false, Bool.false_eq_true, and_self, false_and, and_false, implies_true, wipeC, iD, nD, a1, a0, ok1, ok2, inD_pair]
    refine ⟨by decide, bIf_of (fun e => ⟨by omega, ?_⟩) fun e => ?_⟩
    · have e2 : closedB ps w = true := by
        unfold closedB
        simpa using e
      refine ih1 fun z => ?_
      have := h z
      rw [List.filter_cons_of_pos e2] at this
      simpa [iD] using this
    · have e2 : ¬ closedB ps w = true := by
        intro z
        unfold closedB at z
        rw [z] at e
        cases e
      refine ih2 fun z => ?_
      have := h z
      rw [List.filter_cons_of_neg e2] at this
      exact this
theorem loop_sizes {a : Ad} {n : Int} {ps : List Pr} {k : DK} {ex : XD} (s : Sound n ps) (h0 : 0 ≤ n) (h6 : n ≤ 6) (hret : ∀ rs, Rings ps rs → ∀ ρ, k.rt (.lst (rs.map iD)) ρ) : ∀ (m : Nat) (j : Nat) (c2 c3 c4 c5 c6 c7 c8 c9 : Cell), 1 ≤ j → j + m = n.toNat → (∀ i, i < j → foundK n ps i = []) →
    ((∀ i, i < n.toNat → foundK n ps i = []) → ∀ ρ, k.nx ρ) →
    forW (gNm 2) (t__law_rings_b3 a) k ex ((rgI ((j : Int) + 1) m).map .int) [.fz (.int n), .fz (nD ps), c2, c3, c4, c5, c6, c7, c8, c9]
  | 0, j, c2, c3, c4, c5, c6, c7, c8, c9, hj, e, no, h => by
    have : j = n.toNat := by omega
    subst this
    exact h no _
  | m + 1, j, c2, c3, c4, c5, c6, c7, c8, c9, hj, e, no, h => by
    have er : rgI ((j : Int) + 1) (m + 1) = ((j : Int) + 1) :: rgI (((j + 1 : Nat) : Int) + 1) m := by
      unfold rgI
      rw [List.range_succ_eq_map, List.map_cons, List.map_map]
      simp only [Int.natCast_zero, Int.add_zero, List.cons.injEq, true_and]
      refine List.map_congr_left fun k _ => ?_
      simp only [Function.comp]
      omega
    rw [er]
    have ih := fun c2 c3 c4 c5 c6 c7 c8 c9 no => loop_sizes (a := a) (k := k) (ex := ex) s h0 h6 hret m (j + 1) c2 c3 c4 c5 c6 c7 c8 c9 (by omega) (by omega) no h
    show gNm 2 _ _ _ _
    have sl := sizeLine_eq
    have hps := pairs_len s (by omega)
    have e62 : (2 : Int) ^ 62 = 4611686018427387904 := by decide
    generalize hF : forW (gNm 2) (t__law_rings_b3 a) k ex ((rgI (((j + 1 : Nat) : Int) + 1) m).map .int) = F at ih ⊢
    unfold t__law_rings_b3
    simp only [sSeq, sIf, sRet, sRetN, sNx, sBk, sCt, sSet, sDrop, sAug, sAsg, sPar, sRaise, sSetF, cOf, cLst, cCb, cOp, dOf, dTest, dOp, dUn, dChain, dNot, dNotV, dAnd, dOr, dAndV, dOrV, dIf, dTru, dVar, dC, dCons, dNil, dTup, dLst, dCall, dCb, dIsT, dFld, dProp, dMake, dMethO, dMut, dCut, dTupR, dHeard, dnC, hSl, hOf, hNil, hCons, oSome, oNone, iSeq, iRng1D, iRng2D, gNm, gTp, gC0, gN0, gSto, dYes, kI0, kI, kU, kAdd, kMul, kEq, kNe, kLt, kIs, kIn, kInS, kIx, kLen, kList, kTuple, kInt, kRep, kAppend, kPopAt, kSAdd, kTru_bl, kTru_int, kTru_non, kTru_lst, kTru_tup, kTru_dic, isCell, peek, res, ress, cellD, startC, seqD, List.map_cons, List.map_nil, List.length_cons, List.length_nil, List.cons_append, List.nil_append, List.append_nil, List.replicate_succ, List.replicate_zero, Nat.reduceSub, Nat.reduceAdd, List.getElem?_cons_zero, List.getElem?_cons_succ, List.set_cons_zero, List.set_cons_succ, Option.bind_some, Option.some.injEq, Option.isSome_some, exists_eq_left, exists_eq_left', exists_eq_right, exists_eq_right', exists_and_left, exists_and_right, exists_const, and_assoc, and_true, true_and, Bool.not_true, Bool.not_false, reduceCtorEq, Option.map_some, D.obj.injEq, D.int.injEq, D.bl.injEq, D.lst.injEq, D.tup.injEq, D.str.injEq, Cell.fz.injEq, Cell.ow.injEq, Cell.os.injEq, List.cons.injEq, bIf_t, bIf_f, if_true, if_false, ite_true, ite_false, Bool.false_eq_true, and_self, false_and, and_false, implies_true, cLc, rangeD_eq, wipeC, sFor]
    refine ⟨Nat.zero_le _, by omega, by omega, ?_⟩
    refine lc_one _ [] .off (by rw [rgI_length]; simp; omega) fun z => ?_
    simp only [sSeq, sIf, sRet, sRetN, sNx, sBk, sCt, sSet, sDrop, sAug, sAsg, sPar, sRaise, sSetF, cOf, cLst, cCb, cOp, dOf, dTest, dOp, dUn, dChain, dNot, dNotV, dAnd, dOr, dAndV, dOrV, dIf, dTru, dVar, dC, dCons, dNil, dTup, dLst, dCall, dCb, dIsT, dFld, dProp, dMake, dMethO, dMut, dCut, dTupR, dHeard, dnC, hSl, hOf, hNil, hCons, oSome, oNone, iSeq, iRng1D, iRng2D, gNm, gTp, gC0, gN0, gSto, dYes, kI0, kI, kU, kAdd, kMul, kEq, kNe, kLt, kIs, kIn, kInS, kIx, kLen, kList, kTuple, kInt, kRep, kAppend, kPopAt, kSAdd, kTru_bl, kTru_int, kTru_non, kTru_lst, kTru_tup, kTru_dic, isCell, peek, res, ress, cellD, startC, seqD, List.map_cons, List.map_nil, List.length_cons, List.length_nil, List.cons_append, List.nil_append, List.append_nil, List.replicate_succ, List.replicate_zero, Nat.reduceSub, Nat.reduceAdd, List.getElem?_cons_zero, List.getElem?_cons_succ, List.set_cons_zero, List.set_cons_succ, Option.bind_some, Option.some.injEq, Option.isSome_some, exists_eq_left, exists_eq_left', exists_eq_right, exists_eq_right', exists_and_left, exists_and_right, exists_const, and_assoc, and_true, true_and, Bool.not_true, Bool.not_false, reduceCtorEq, Option.map_some, D.obj.injEq, D.int.injEq, D.bl.injEq, D.lst.injEq, D.tup.injEq, D.str.injEq, Cell.fz.injEq, Cell.ow.injEq, Cell.os.injEq, List.cons.injEq, bIf_t, bIf_f, if_true, if_false, ite_true, ite_false, Bool.false_eq_true, and_self, false_and, and_false, implies_true, unwipe, keepF, wipeC]
    refine ⟨by omega, by omega, ?_⟩
    rw [← rangeD_eq]
    have tl : (rangeD 0 ((j : Int) + 1 - 1).toNat).length = j := by unfold rangeD; simp
    refine loop_ways s hps h6 _ 0 _ c5 c6 _ _ (.inl rfl) (by rw [tl]; omega) fun c4 c5 c6 c7 c9 hc => ?_
    rw [tl, Nat.zero_add] at hc
    have b1 : (waysK n ps j).length ≤ 720 := Nat.le_trans (waysK_len s j) (bnd_le n.toNat (by omega) j (by omega))
    have wn : ∀ w ∈ waysK n ps j, w ≠ [] := fun w hw e => by
      have := ((mem_waysK s).mp hw).len
      rw [e] at this
      cases this
    have fin : ∀ c4 z c8 c9, okD 60 (.lst ((foundK n ps j).map iD)) = true ∧ 0 ≤ sizeLine ∧ okD 60 (.lst []) = true ∧ bIf (!eqD (.lst ((foundK n ps j).map iD)) (.lst [])) (kSort [.lst ((foundK n ps j).map iD)] fun xs => k.rt (.lst xs) [.fz (.int n), .fz (nD ps), .fz (.int ((j : Int) + 1)), .ow ((foundK n ps j).map iD), c4, c5, c6, z, c8, c9]) (F [.fz (.int n), .fz (nD ps), .fz (.int ((j : Int) + 1)), .ow ((foundK n ps j).map iD), c4, c5, c6, z, c8, c9]) := fun c4 z c8 c9 => by
      have okf : okD 60 (.lst ((foundK n ps j).map iD)) = true := by
        simp only [okD]
        refine okDs_of fun d hd => ?_
        obtain ⟨w, _, rfl⟩ := List.mem_map.mp hd
        exact okD_iD 58 w
      refine ⟨okf, Nat.zero_le _, by simp [okD, okDs], bIf_of (fun e => ?_) fun e => ?_⟩
      · have ne : foundK n ps j ≠ [] := fun z => by rw [z] at e; simp [eqD, eqDs] at e
        refine .inr ⟨foundK n ps j, asRows_map _, fun r hr hz => ?_, hret _ (rings_hit s no ne) _⟩
        have := ((mem_foundK s).mp hr).2.2
        rw [hz] at this
        cases this
      · have e0 : foundK n ps j = [] := by
          cases hf : foundK n ps j with
          | nil => rfl
          | cons x r => rw [hf] at e; simp [eqD, eqDs] at e
        refine ih _ _ _ _ _ _ _ _ fun i hi => ?_
        by_cases h2 : i = j
        · rw [h2]; exact e0
        · exact no i (by omega)
    rcases hc with rfl | rfl
    all_goals
      simp only [sSeq, sIf, sRet, sRetN, sNx, sBk, sCt, sSet, sDrop, sAug, sAsg, sPar, sRaise, sSetF, cOf, cLst, cCb, cOp, dOf, dTest, dOp, dUn, dChain, dNot, dNotV, dAnd, dOr, dAndV, dOrV, dIf, dTru, dVar, dC, dCons, dNil, dTup, dLst, dCall, dCb, dIsT, dFld, dProp, dMake, dMethO, dMut, dCut, dTupR, dHeard, dnC, hSl, hOf, hNil, hCons, oSome, oNone, iSeq, iRng1D, iRng2D, gNm, gTp, gC0, gN0, gSto, dYes, kI0, kI, kU, kAdd, kMul, kEq, kNe, kLt, kIs, kIn, kInS, kIx, kLen, kList, kTuple, kInt, kRep, kAppend, kPopAt, kSAdd, kTru_bl, kTru_int, kTru_non, kTru_lst, kTru_tup, kTru_dic, isCell, peek, res, ress, cellD, startC, seqD, List.map_cons, List.map_nil, List.length_cons, List.length_nil, List.cons_append, List.nil_append, List.append_nil, List.replicate_succ, List.replicate_zero, Nat.reduceSub, Nat.reduceAdd, List.getElem?_cons_zero, List.getElem?_cons_succ, List.set_cons_zero, List.set_cons_succ, Option.bind_some, Option.some.injEq, Option.isSome_some, exists_eq_left, exists_eq_left', exists_eq_right, exists_eq_right', exists_and_left, exists_and_right, exists_const, and_assoc, and_true, true_and, Bool.not_true, Bool.not_false, reduceCtorEq, Option.map_some, D.obj.injEq, D.int.injEq, D.bl.injEq, D.lst.injEq, D.tup.injEq, D.str.injEq, Cell.fz.injEq, Cell.ow.injEq, Cell.os.injEq, List.cons.injEq, bIf_t, bIf_f, if_true, if_false, ite_true, ite_false, Bool.false_eq_true, and_self, false_and, and_false, implies_true]
      refine lc_found (n := n) (waysK n ps j) [] _ wn (by simpa using (by omega : (waysK n ps j).length ≤ 5000)) fun z => ?_
      simp only [sSeq, sIf, sRet, sRetN, sNx, sBk, sCt, sSet, sDrop, sAug, sAsg, sPar, sRaise, sSetF, cOf, cLst, cCb, cOp, dOf, dTest, dOp, dUn, dChain, dNot, dNotV, dAnd, dOr, dAndV, dOrV, dIf, dTru, dVar, dC, dCons, dNil, dTup, dLst, dCall, dCb, dIsT, dFld, dProp, dMake, dMethO, dMut, dCut, dTupR, dHeard, dnC, hSl, hOf, hNil, hCons, oSome, oNone, iSeq, iRng1D, iRng2D, gNm, gTp, gC0, gN0, gSto, dYes, kI0, kI, kU, kAdd, kMul, kEq, kNe, kLt, kIs, kIn, kInS, kIx, kLen, kList, kTuple, kInt, kRep, kAppend, kPopAt, kSAdd, kTru_bl, kTru_int, kTru_non, kTru_lst, kTru_tup, kTru_dic, isCell, peek, res, ress, cellD, startC, seqD, List.map_cons, List.map_nil, List.length_cons, List.length_nil, List.cons_append, List.nil_append, List.append_nil, List.replicate_succ, List.replicate_zero, Nat.reduceSub, Nat.reduceAdd, List.getElem?_cons_zero, List.getElem?_cons_succ, List.set_cons_zero, List.set_cons_succ, Option.bind_some, Option.some.injEq, Option.isSome_some, exists_eq_left, exists_eq_left', exists_eq_right, exists_eq_right', exists_and_left, exists_and_right, exists_const, and_assoc, and_true, true_and, Bool.not_true, Bool.not_false, reduceCtorEq, Option.map_some, D.obj.injEq, D.int.injEq, D.bl.injEq, D.lst.injEq, D.tup.injEq, D.str.injEq, Cell.fz.injEq, Cell.ow.injEq, Cell.os.injEq, List.cons.injEq, bIf_t, bIf_f, if_true, if_false, ite_true, ite_false, Bool.false_eq_true, and_self, false_and, and_false, implies_true]
      have f := fin (.fz (.lst ((waysK n ps j).map iD)))
      unfold foundK at f
      exact ⟨(f c2 c2 c9).2.1, (f c2 c2 c9).1, (f c2 c2 c9).2.2.1, (f _ _ c9).2.2.2⟩
theorem law__law_rings (a : Ad) : ∀ args q ex, ds__law_rings a args q ex → t__law_rings a (startC 10 args) { nx := fun _ => q .non, rt := fun d _ => q d } ex := by
  rintro args q ex ⟨n, ps, rfl, s, h0, h6, h⟩
  unfold t__law_rings
  have e2 : (2 : Int) ^ 62 = 4611686018427387904 := by decide
  simp only [sSeq, sIf, sRet, sRetN, sNx, sBk, sCt, sSet, sDrop, sAug, sAsg, sPar, sRaise, sSetF, cOf, cLst, cCb, cOp, dOf, dTest, dOp, dUn, dChain, dNot, dNotV, dAnd, dOr, dAndV, dOrV, dIf, dTru, dVar, dC, dCons, dNil, dTup, dLst, dCall, dCb, dIsT, dFld, dProp, dMake, dMethO, dMut, dCut, dTupR, dHeard, dnC, hSl, hOf, hNil, hCons, oSome, oNone, iSeq, iRng1D, iRng2D, gNm, gTp, gC0, gN0, gSto, dYes, kI0, kI, kU, kAdd, kMul, kEq, kNe, kLt, kIs, kIn, kInS, kIx, kLen, kList, kTuple, kInt, kRep, kAppend, kPopAt, kSAdd, kTru_bl, kTru_int, kTru_non, kTru_lst, kTru_tup, kTru_dic, isCell, peek, res, ress, cellD, startC, seqD, List.map_cons, List.map_nil, List.length_cons, List.length_nil, List.cons_append, List.nil_append, List.append_nil, List.replicate_succ, List.replicate_zero, Nat.reduceSub, Nat.reduceAdd, List.getElem?_cons_zero, List.getElem?_cons_succ, List.set_cons_zero, List.set_cons_succ, Option.bind_some, Option.some.injEq, Option.isSome_some, exists_eq_left, exists_eq_left', exists_eq_right, exists_eq_right', exists_and_left, exists_and_right, exists_const, and_assoc, and_true, true_and, Bool.not_true, Bool.not_false, reduceCtorEq, Option.map_some, D.obj.injEq, D.int.injEq, D.bl.injEq, D.lst.injEq, D.tup.injEq, D.str.injEq, Cell.fz.injEq, Cell.ow.injEq, Cell.os.injEq, List.cons.injEq, bIf_t, bIf_f, if_true, if_false, ite_true, ite_false, Bool.false_eq_true, and_self, false_and, and_false, implies_true, sFor, rangeD_eq]
  refine ⟨by decide, by decide, by omega, by omega, ?_⟩
  have no1 : foundK n ps 0 = [] := by
    cases hf : foundK n ps 0 with
    | nil => rfl
    | cons x r =>
      have := (mem_foundK s).mp (hf ▸ List.mem_cons_self : x ∈ foundK n ps 0)
      have h2 := this.1.two s
      omega
  by_cases hn : n.toNat = 0
  · have e1 : (n + 1 - 2).toNat = 0 := by omega
    rw [e1]
    show 0 ≤ sizeLine ∧ _
    exact ⟨Nat.zero_le _, h [] (rings_none s fun i hi => by omega)⟩
  · have e1 : (n + 1 - 2).toNat = n.toNat - 1 := by omega
    rw [e1]
    refine loop_sizes s h0 h6 (fun rs hr ρ => h rs hr) (n.toNat - 1) 1 _ _ _ _ _ _ _ _ (by omega) (by omega) (fun i hi => ?_) fun no ρ => ?_
    · have : i = 0 := by omega
      subst this
      exact no1
    · exact ⟨Nat.zero_le _, h [] (rings_none s no)⟩
end D7
namespace D7
open PySem PySem.Spec PyProof.Rows L2
mutual
theorem alike_refl : ∀ {n : Nat} {d : D}, okD n d = true → alikeD d d = true
  | _, .non, _ => rfl
  | _, .bl b, _ => by simp [alikeD]
  | _, .int i, _ => by simp [alikeD]
  | _, .str x, _ => by simp [alikeD]
  | 0, .lst _, h => by simp [okD] at h
  | 0, .tup _, h => by simp [okD] at h
  | n + 1, .lst ds, h => by
    have := alikes_refl (n := n) (ds := ds) (by simpa [okD] using h)
    simpa [alikeD] using this
  | n + 1, .tup ds, h => by
    have := alikes_refl (n := n) (ds := ds) (by simpa [okD] using h)
    simpa [alikeD] using this
  | n, .set _ _, h => by cases n <;> simp [okD] at h
  | n, .dic _, h => by cases n <;> simp [okD] at h
  | n, .dtu _, h => by cases n <;> simp [okD] at h
  | n, .obj _ _, h => by cases n <;> simp [okD] at h
  | n, .row, h => by cases n <;> simp [okD] at h
  | n, .scr _, h => by cases n <;> simp [okD] at h
theorem alikes_refl : ∀ {n : Nat} {ds : List D}, okDs n ds = true → alikeD.alikeDs ds ds = true
  | _, [], _ => rfl
  | n, d :: ds, h => by
    have h : okD n d = true ∧ okDs n ds = true := by simpa [okDs] using h
    simp [alikeD.alikeDs, alike_refl h.1, alikes_refl h.2]
end
theorem alike_same {a : Ad} {x : D} {q : D → Prop} {ex : XD} (hx : okD 12 x = true) (h : q (.bl true)) : ds__law_alike a [x, x] q ex := ⟨x, x, rfl, hx, okD_mono (by omega) hx, by rw [alike_refl hx]; exact h⟩
theorem make_ok {a : Ad} {n : Int} {ps : List Pr} {q : List (Str × D) → Prop} {ex : XD} (s : Sound n ps) (h0 : 0 ≤ n) (h24 : n ≤ 24) (h1 : (∀ c, ¬ Round ps c) → q (todoF n ps)) (h2 : ∀ c, Round ps c → (∀ c', Round ps c' → Before c c') → ex a.RoundAbout [(("cycle" : Str), iD c)]) : di_Todo a [.int n, nD ps] q ex :=
  ⟨_, _, rfl, rfl, okD_nD 48 ps, .inr ⟨n, rfl, h0, h24, .inr ⟨ps, s.needs, h1, h2⟩⟩⟩
theorem law_s4 (a : Ad) {n : Int} {ps : List Pr} {c0 c1 c2 c3 c6 c7 : Cell} {k : DK} {ex : XD} (s : Sound n ps) (h0 : 0 ≤ n) (h24 : n ≤ 24)
    (h1 : (∀ c, ¬ Round ps c) → k.nx [c0, c1, c2, c3, .fz (nD ps), .fz (.int n), c6, .fz (.tup [])])
    (h2 : ∀ c, Round ps c → (∀ c', Round ps c' → Before c c') → k.nx [c0, c1, c2, c3, .fz (nD ps), .fz (.int n), c6, .fz (.tup [.str "round", iD c, .bl true])]) :
    t_law_s4 a [c0, c1, c2, c3, .fz (nD ps), .fz (.int n), c6, c7] k ex := by
  unfold t_law_s4
  simp only [sSeq, sIf, sRet, sRetN, sNx, sBk, sCt, sSet, sDrop, sAug, sAsg, sPar, sRaise, sSetF, cOf, cLst, cCb, cOp, dOf, dTest, dOp, dUn, dChain, dNot, dNotV, dAnd, dOr, dAndV, dOrV, dIf, dTru, dVar, dC, dCons, dNil, dTup, dLst, dCall, dCb, dIsT, dFld, dProp, dMake, dMethO, dMut, dCut, dTupR, dHeard, dnC, hSl, hOf, hNil, hCons, oSome, oNone, iSeq, iRng1D, iRng2D, gNm, gTp, gC0, gN0, gSto, dYes, kI0, kI, kU, kAdd, kMul, kEq, kNe, kLt, kIs, kIn, kInS, kIx, kLen, kList, kTuple, kInt, kRep, kAppend, kPopAt, kSAdd, kTru_bl, kTru_int, kTru_non, kTru_lst, kTru_tup, kTru_dic, isCell, peek, res, ress, cellD, startC, seqD, List.map_cons, List.map_nil, List.length_cons, List.length_nil, List.cons_append, List.nil_append, List.append_nil, List.replicate_succ, List.replicate_zero, Nat.reduceSub, Nat.reduceAdd, List.getElem?_cons_zero, List.getElem?_cons_succ, List.set_cons_zero, List.set_cons_succ, Option.bind_some, Option.some.injEq, Option.isSome_some, exists_eq_left, exists_eq_left', exists_eq_right, exists_eq_right', exists_and_left, exists_and_right, exists_const, and_assoc, and_true, true_and, Bool.not_true, Bool.not_false, reduceCtorEq, Option.map_some, D.obj.injEq, D.int.injEq, D.bl.injEq, D.lst.injEq, D.tup.injEq, D.str.injEq, Cell.fz.injEq, Cell.ow.injEq, Cell.os.injEq, List.cons.injEq, bIf_t, bIf_f, if_true, if_false, ite_true, ite_false, Bool.false_eq_true, and_self, false_and, and_false, implies_true]
  exact make_ok s h0 h24 h1 fun c hr hm => .inr (.inl ⟨rfl, _, rfl, h2 c hr hm⟩)
theorem law_s6 (a : Ad) {n : Int} {ps : List Pr} {c0 c1 c2 c3 c6 : Cell} {k : DK} {ex : XD} (s : Sound n ps) (h0 : 0 ≤ n) (h24 : n ≤ 24) (no : ∀ c, ¬ Round ps c)
    (h : k.nx [c0, c1, c2, c3, .fz (nD ps), .fz (.int n), c6, .fz (.tup [])]) : t_law_s6 a [c0, c1, c2, c3, .fz (nD ps), .fz (.int n), c6, .fz (.tup [])] k ex := by
  unfold t_law_s6 t_law_s5
  simp only [sSeq, sIf, sRet, sRetN, sNx, sBk, sCt, sSet, sDrop, sAug, sAsg, sPar, sRaise, sSetF, cOf, cLst, cCb, cOp, dOf, dTest, dOp, dUn, dChain, dNot, dNotV, dAnd, dOr, dAndV, dOrV, dIf, dTru, dVar, dC, dCons, dNil, dTup, dLst, dCall, dCb, dIsT, dFld, dProp, dMake, dMethO, dMut, dCut, dTupR, dHeard, dnC, hSl, hOf, hNil, hCons, oSome, oNone, iSeq, iRng1D, iRng2D, gNm, gTp, gC0, gN0, gSto, dYes, kI0, kI, kU, kAdd, kMul, kEq, kNe, kLt, kIs, kIn, kInS, kIx, kLen, kList, kTuple, kInt, kRep, kAppend, kPopAt, kSAdd, kTru_bl, kTru_int, kTru_non, kTru_lst, kTru_tup, kTru_dic, isCell, peek, res, ress, cellD, startC, seqD, List.map_cons, List.map_nil, List.length_cons, List.length_nil, List.cons_append, List.nil_append, List.append_nil, List.replicate_succ, List.replicate_zero, Nat.reduceSub, Nat.reduceAdd, List.getElem?_cons_zero, List.getElem?_cons_succ, List.set_cons_zero, List.set_cons_succ, Option.bind_some, Option.some.injEq, Option.isSome_some, exists_eq_left, exists_eq_left', exists_eq_right, exists_eq_right', exists_and_left, exists_and_right, exists_const, and_assoc, and_true, true_and, Bool.not_true, Bool.not_false, reduceCtorEq, Option.map_some, D.obj.injEq, D.int.injEq, D.bl.injEq, D.lst.injEq, D.tup.injEq, D.str.injEq, Cell.fz.injEq, Cell.ow.injEq, Cell.os.injEq, List.cons.injEq, bIf_t, bIf_f, if_true, if_false, ite_true, ite_false, Bool.false_eq_true, and_self, false_and, and_false, implies_true, ds_Todo_needs, ds_Todo_many]
  have he : eqD (.tup []) (.tup []) = true := by simp [eqD, eqDs]
  refine ⟨Nat.zero_le _, by simp [okD, okDs], by simp [okD, okDs], ?_⟩
  rw [he, Bool.not_true, bIf_f]
  refine make_ok s h0 h24 (fun _ => ⟨n, ps, rfl, alike_same (okD_nD 10 ps) ?_⟩) (fun c hr => absurd hr (no c))
  simp only [kTru_bl, Bool.not_true, bIf_f]
  refine make_ok s h0 h24 (fun _ => ⟨n, ⟨ps, rfl⟩, alike_same rfl ?_⟩) (fun c hr => absurd hr (no c))
  exact h
theorem before_eq {c d : List Int} (h : Before c d) (k : Before d c) : c = d := by
  have e : c.length = d.length := by have := h.le; have := k.le; omega
  rcases h with h | ⟨_, h⟩
  · omega
  · rcases k with k | ⟨_, k⟩
    · omega
    · rcases lex_tri e h with z | z
      · exact z
      · rw [z] at k; cases k
theorem law_s8 (a : Ad) {n : Int} {ps : List Pr} {c0 c1 c2 c3 c6 c7 : Cell} {k : DK} {ex : XD} (s : Sound n ps) (h0 : 0 ≤ n) (h24 : n ≤ 24) (no : ∀ c, ¬ Round ps c)
    (h : k.nx [c0, c1, c2, c3, .fz (nD ps), .fz (.int n), c6, c7]) : t_law_s8 a [c0, c1, c2, c3, .fz (nD ps), .fz (.int n), c6, c7] k ex := by
  unfold t_law_s8 t_law_s7
  simp only [sSeq, sIf, sRet, sRetN, sNx, sBk, sCt, sSet, sDrop, sAug, sAsg, sPar, sRaise, sSetF, cOf, cLst, cCb, cOp, dOf, dTest, dOp, dUn, dChain, dNot, dNotV, dAnd, dOr, dAndV, dOrV, dIf, dTru, dVar, dC, dCons, dNil, dTup, dLst, dCall, dCb, dIsT, dFld, dProp, dMake, dMethO, dMut, dCut, dTupR, dHeard, dnC, hSl, hOf, hNil, hCons, oSome, oNone, iSeq, iRng1D, iRng2D, gNm, gTp, gC0, gN0, gSto, dYes, kI0, kI, kU, kAdd, kMul, kEq, kNe, kLt, kIs, kIn, kInS, kIx, kLen, kList, kTuple, kInt, kRep, kAppend, kPopAt, kSAdd, kTru_bl, kTru_int, kTru_non, kTru_lst, kTru_tup, kTru_dic, isCell, peek, res, ress, cellD, startC, seqD, List.map_cons, List.map_nil, List.length_cons, List.length_nil, List.cons_append, List.nil_append, List.append_nil, List.replicate_succ, List.replicate_zero, Nat.reduceSub, Nat.reduceAdd, List.getElem?_cons_zero, List.getElem?_cons_succ, List.set_cons_zero, List.set_cons_succ, Option.bind_some, Option.some.injEq, Option.isSome_some, exists_eq_left, exists_eq_left', exists_eq_right, exists_eq_right', exists_and_left, exists_and_right, exists_const, and_assoc, and_true, true_and, Bool.not_true, Bool.not_false, reduceCtorEq, Option.map_some, D.obj.injEq, D.int.injEq, D.bl.injEq, D.lst.injEq, D.tup.injEq, D.str.injEq, Cell.fz.injEq, Cell.ow.injEq, Cell.os.injEq, List.cons.injEq, bIf_t, bIf_f, if_true, if_false, ite_true, ite_false, Bool.false_eq_true, and_self, false_and, and_false, implies_true, ds_is_todo]
  refine make_ok s h0 h24 (fun _ => ?_) (fun c hr => absurd hr (no c))
  have e1 : kindD [a.Todo] (.obj a.Todo (todoF n ps)) = true := by simp [kindD]
  have e2 : isC a.Todo (.obj a.Todo (todoF n ps)) = true := by simp [isC]
  rw [e1, e2]
  refine ⟨rfl, ?_⟩
  exact ⟨by decide, rfl, rfl, h⟩
theorem law_b1 (a : Ad) {c0 : Cell} {k : DK} {ex : XD} {t c3 c4 c5 c6 c7 : Cell} (h : ∀ c4 c5 c6 c7, k.nx [c0, .fz .row, t, c3, c4, c5, c6, c7]) : t_law_b1 a [c0, .fz .row, t, c3, c4, c5, c6, c7] k ex := by
  unfold t_law_b1 t_law_s1
  simp only [sSeq, sIf, sRet, sRetN, sNx, sBk, sCt, sSet, sDrop, sAug, sAsg, sPar, sRaise, sSetF, cOf, cLst, cCb, cOp, dOf, dTest, dOp, dUn, dChain, dNot, dNotV, dAnd, dOr, dAndV, dOrV, dIf, dTru, dVar, dC, dCons, dNil, dTup, dLst, dCall, dCb, dIsT, dFld, dProp, dMake, dMethO, dMut, dCut, dTupR, dHeard, dnC, hSl, hOf, hNil, hCons, oSome, oNone, iSeq, iRng1D, iRng2D, gNm, gTp, gC0, gN0, gSto, dYes, kI0, kI, kU, kAdd, kMul, kEq, kNe, kLt, kIs, kIn, kInS, kIx, kLen, kList, kTuple, kInt, kRep, kAppend, kPopAt, kSAdd, kTru_bl, kTru_int, kTru_non, kTru_lst, kTru_tup, kTru_dic, isCell, peek, res, ress, cellD, startC, seqD, List.map_cons, List.map_nil, List.length_cons, List.length_nil, List.cons_append, List.nil_append, List.append_nil, List.replicate_succ, List.replicate_zero, Nat.reduceSub, Nat.reduceAdd, List.getElem?_cons_zero, List.getElem?_cons_succ, List.set_cons_zero, List.set_cons_succ, Option.bind_some, Option.some.injEq, Option.isSome_some, exists_eq_left, exists_eq_left', exists_eq_right, exists_eq_right', exists_and_left, exists_and_right, exists_const, and_assoc, and_true, true_and, Bool.not_true, Bool.not_false, reduceCtorEq, Option.map_some, D.obj.injEq, D.int.injEq, D.bl.injEq, D.lst.injEq, D.tup.injEq, D.str.injEq, Cell.fz.injEq, Cell.ow.injEq, Cell.os.injEq, List.cons.injEq, bIf_t, bIf_f, if_true, if_false, ite_true, ite_false, Bool.false_eq_true, and_self, false_and, and_false, implies_true, ds__law_taken]
  refine ⟨by decide, by decide, fun n h0 h7 => ?_⟩
  unfold t_law_s2
  simp only [sSeq, sIf, sRet, sRetN, sNx, sBk, sCt, sSet, sDrop, sAug, sAsg, sPar, sRaise, sSetF, cOf, cLst, cCb, cOp, dOf, dTest, dOp, dUn, dChain, dNot, dNotV, dAnd, dOr, dAndV, dOrV, dIf, dTru, dVar, dC, dCons, dNil, dTup, dLst, dCall, dCb, dIsT, dFld, dProp, dMake, dMethO, dMut, dCut, dTupR, dHeard, dnC, hSl, hOf, hNil, hCons, oSome, oNone, iSeq, iRng1D, iRng2D, gNm, gTp, gC0, gN0, gSto, dYes, kI0, kI, kU, kAdd, kMul, kEq, kNe, kLt, kIs, kIn, kInS, kIx, kLen, kList, kTuple, kInt, kRep, kAppend, kPopAt, kSAdd, kTru_bl, kTru_int, kTru_non, kTru_lst, kTru_tup, kTru_dic, isCell, peek, res, ress, cellD, startC, seqD, List.map_cons, List.map_nil, List.length_cons, List.length_nil, List.cons_append, List.nil_append, List.append_nil, List.replicate_succ, List.replicate_zero, Nat.reduceSub, Nat.reduceAdd, List.getElem?_cons_zero, List.getElem?_cons_succ, List.set_cons_zero, List.set_cons_succ, Option.bind_some, Option.some.injEq, Option.isSome_some, exists_eq_left, exists_eq_left', exists_eq_right, exists_eq_right', exists_and_left, exists_and_right, exists_const, and_assoc, and_true, true_and, Bool.not_true, Bool.not_false, reduceCtorEq, Option.map_some, D.obj.injEq, D.int.injEq, D.bl.injEq, D.lst.injEq, D.tup.injEq, D.str.injEq, Cell.fz.injEq, Cell.ow.injEq, Cell.os.injEq, List.cons.injEq, bIf_t, bIf_f, if_true, if_false, ite_true, ite_false, Bool.false_eq_true, and_self, false_and, and_false, implies_true, ds__law_pairs, ds__law_needs]
  refine ⟨h0, by omega, fun ps s => ⟨h0, by omega, fun ps' s' _ => ⟨by decide, ?_⟩⟩⟩
  refine ⟨_, rfl, by simp, by simp, fun d hd => ?_⟩
  obtain ⟨qs, rfl, sq⟩ : ∃ qs, d = nD qs ∧ Sound n qs := by
    simp only [List.mem_cons, List.not_mem_nil, or_false] at hd
    rcases hd with rfl | rfl
    · exact ⟨ps, rfl, s⟩
    · exact ⟨ps', rfl, s'⟩
  unfold t_law_s3
  simp only [sSeq, sIf, sRet, sRetN, sNx, sBk, sCt, sSet, sDrop, sAug, sAsg, sPar, sRaise, sSetF, cOf, cLst, cCb, cOp, dOf, dTest, dOp, dUn, dChain, dNot, dNotV, dAnd, dOr, dAndV, dOrV, dIf, dTru, dVar, dC, dCons, dNil, dTup, dLst, dCall, dCb, dIsT, dFld, dProp, dMake, dMethO, dMut, dCut, dTupR, dHeard, dnC, hSl, hOf, hNil, hCons, oSome, oNone, iSeq, iRng1D, iRng2D, gNm, gTp, gC0, gN0, gSto, dYes, kI0, kI, kU, kAdd, kMul, kEq, kNe, kLt, kIs, kIn, kInS, kIx, kLen, kList, kTuple, kInt, kRep, kAppend, kPopAt, kSAdd, kTru_bl, kTru_int, kTru_non, kTru_lst, kTru_tup, kTru_dic, isCell, peek, res, ress, cellD, startC, seqD, List.map_cons, List.map_nil, List.length_cons, List.length_nil, List.cons_append, List.nil_append, List.append_nil, List.replicate_succ, List.replicate_zero, Nat.reduceSub, Nat.reduceAdd, List.getElem?_cons_zero, List.getElem?_cons_succ, List.set_cons_zero, List.set_cons_succ, Option.bind_some, Option.some.injEq, Option.isSome_some, exists_eq_left, exists_eq_left', exists_eq_right, exists_eq_right', exists_and_left, exists_and_right, exists_const, and_assoc, and_true, true_and, Bool.not_true, Bool.not_false, reduceCtorEq, Option.map_some, D.obj.injEq, D.int.injEq, D.bl.injEq, D.lst.injEq, D.tup.injEq, D.str.injEq, Cell.fz.injEq, Cell.ow.injEq, Cell.os.injEq, List.cons.injEq, bIf_t, bIf_f, if_true, if_false, ite_true, ite_false, Bool.false_eq_true, and_self, false_and, and_false, implies_true, ds__law_rings]
  refine ⟨qs, rfl, sq, h0, by omega, fun rs hrs => ?_⟩
  refine law_s4 a sq h0 (by omega) (fun no => ?_) fun c hr hm => ?_
  · rcases hrs with ⟨rfl, _⟩ | ⟨c, rest, _, hr, _⟩
    · unfold t_law_s11
      simp only [sSeq, sIf, sRet, sRetN, sNx, sBk, sCt, sSet, sDrop, sAug, sAsg, sPar, sRaise, sSetF, cOf, cLst, cCb, cOp, dOf, dTest, dOp, dUn, dChain, dNot, dNotV, dAnd, dOr, dAndV, dOrV, dIf, dTru, dVar, dC, dCons, dNil, dTup, dLst, dCall, dCb, dIsT, dFld, dProp, dMake, dMethO, dMut, dCut, dTupR, dHeard, dnC, hSl, hOf, hNil, hCons, oSome, oNone, iSeq, iRng1D, iRng2D, gNm, gTp, gC0, gN0, gSto, dYes, kI0, kI, kU, kAdd, kMul, kEq, kNe, kLt, kIs, kIn, kInS, kIx, kLen, kList, kTuple, kInt, kRep, kAppend, kPopAt, kSAdd, kTru_bl, kTru_int, kTru_non, kTru_lst, kTru_tup, kTru_dic, isCell, peek, res, ress, cellD, startC, seqD, List.map_cons, List.map_nil, List.length_cons, List.length_nil, List.cons_append, List.nil_append, List.append_nil, List.replicate_succ, List.replicate_zero, Nat.reduceSub, Nat.reduceAdd, List.getElem?_cons_zero, List.getElem?_cons_succ, List.set_cons_zero, List.set_cons_succ, Option.bind_some, Option.some.injEq, Option.isSome_some, exists_eq_left, exists_eq_left', exists_eq_right, exists_eq_right', exists_and_left, exists_and_right, exists_const, and_assoc, and_true, true_and, Bool.not_true, Bool.not_false, reduceCtorEq, Option.map_some, D.obj.injEq, D.int.injEq, D.bl.injEq, D.lst.injEq, D.tup.injEq, D.str.injEq, Cell.fz.injEq, Cell.ow.injEq, Cell.os.injEq, List.cons.injEq, bIf_t, bIf_f, if_true, if_false, ite_true, ite_false, Bool.false_eq_true, and_self, false_and, and_false, implies_true]
      have he : eqD (.lst []) (.lst []) = true := by simp [eqD, eqDs]
      refine ⟨Nat.zero_le _, by simp [okD, okDs], by simp [okD, okDs], ?_⟩
      simp only [List.map_nil, he, bIf_t]
      refine law_s6 a sq h0 (by omega) no ?_
      exact law_s8 a sq h0 (by omega) no (h _ _ _ _)
    · exact absurd hr (no c)
  · rcases hrs with ⟨_, no⟩ | ⟨c2, rest, rfl, hr2, hm2⟩
    · exact absurd hr (no c)
    · have ec : c2 = c := before_eq (hm2 c hr) (hm c2 hr2)
      subst ec
      have he : eqD (.lst (iD c2 :: rest.map iD)) (.lst []) = false := by simp [eqD, eqDs]
      unfold t_law_s11
      simp only [sSeq, sIf, sRet, sRetN, sNx, sBk, sCt, sSet, sDrop, sAug, sAsg, sPar, sRaise, sSetF, cOf, cLst, cCb, cOp, dOf, dTest, dOp, dUn, dChain, dNot, dNotV, dAnd, dOr, dAndV, dOrV, dIf, dTru, dVar, dC, dCons, dNil, dTup, dLst, dCall, dCb, dIsT, dFld, dProp, dMake, dMethO, dMut, dCut, dTupR, dHeard, dnC, hSl, hOf, hNil, hCons, oSome, oNone, iSeq, iRng1D, iRng2D, gNm, gTp, gC0, gN0, gSto, dYes, kI0, kI, kU, kAdd, kMul, kEq, kNe, kLt, kIs, kIn, kInS, kIx, kLen, kList, kTuple, kInt, kRep, kAppend, kPopAt, kSAdd, kTru_bl, kTru_int, kTru_non, kTru_lst, kTru_tup, kTru_dic, isCell, peek, res, ress, cellD, startC, seqD, List.map_cons, List.map_nil, List.length_cons, List.length_nil, List.cons_append, List.nil_append, List.append_nil, List.replicate_succ, List.replicate_zero, Nat.reduceSub, Nat.reduceAdd, List.getElem?_cons_zero, List.getElem?_cons_succ, List.set_cons_zero, List.set_cons_succ, Option.bind_some, Option.some.injEq, Option.isSome_some, exists_eq_left, exists_eq_left', exists_eq_right, exists_eq_right', exists_and_left, exists_and_right, exists_const, and_assoc, and_true, true_and, Bool.not_true, Bool.not_false, reduceCtorEq, Option.map_some, D.obj.injEq, D.int.injEq, D.bl.injEq, D.lst.injEq, D.tup.injEq, D.str.injEq, Cell.fz.injEq, Cell.ow.injEq, Cell.os.injEq, List.cons.injEq, bIf_t, bIf_f, if_true, if_false, ite_true, ite_false, Bool.false_eq_true, and_self, false_and, and_false, implies_true, he]
      refine ⟨Nat.zero_le _, ?_, by simp [okD, okDs], ?_⟩
      · simp only [okD]
        refine okDs_of fun d hd => ?_
        rcases List.mem_cons.mp hd with rfl | hd
        · exact okD_iD 58 c2
        · obtain ⟨w, _, rfl⟩ := List.mem_map.mp hd
          exact okD_iD 58 w
      · unfold t_law_s10 t_law_s9
        simp only [sSeq, sIf, sRet, sRetN, sNx, sBk, sCt, sSet, sDrop, sAug, sAsg, sPar, sRaise, sSetF, cOf, cLst, cCb, cOp, dOf, dTest, dOp, dUn, dChain, dNot, dNotV, dAnd, dOr, dAndV, dOrV, dIf, dTru, dVar, dC, dCons, dNil, dTup, dLst, dCall, dCb, dIsT, dFld, dProp, dMake, dMethO, dMut, dCut, dTupR, dHeard, dnC, hSl, hOf, hNil, hCons, oSome, oNone, iSeq, iRng1D, iRng2D, gNm, gTp, gC0, gN0, gSto, dYes, kI0, kI, kU, kAdd, kMul, kEq, kNe, kLt, kIs, kIn, kInS, kIx, kLen, kList, kTuple, kInt, kRep, kAppend, kPopAt, kSAdd, kTru_bl, kTru_int, kTru_non, kTru_lst, kTru_tup, kTru_dic, isCell, peek, res, ress, cellD, startC, seqD, List.map_cons, List.map_nil, List.length_cons, List.length_nil, List.cons_append, List.nil_append, List.append_nil, List.replicate_succ, List.replicate_zero, Nat.reduceSub, Nat.reduceAdd, List.getElem?_cons_zero, List.getElem?_cons_succ, List.set_cons_zero, List.set_cons_succ, Option.bind_some, Option.some.injEq, Option.isSome_some, exists_eq_left, exists_eq_left', exists_eq_right, exists_eq_right', exists_and_left, exists_and_right, exists_const, and_assoc, and_true, true_and, Bool.not_true, Bool.not_false, reduceCtorEq, Option.map_some, D.obj.injEq, D.int.injEq, D.bl.injEq, D.lst.injEq, D.tup.injEq, D.str.injEq, Cell.fz.injEq, Cell.ow.injEq, Cell.os.injEq, List.cons.injEq, bIf_t, bIf_f, if_true, if_false, ite_true, ite_false, Bool.false_eq_true, and_self, false_and, and_false, implies_true, atI_0]
        refine ⟨by decide, alike_same (by simp [okD, okDs, strOk_round, okD_iD 10 c2]) ?_⟩
        exact h _ _ _ _
theorem loop_law (a : Ad) {c0 : Cell} {k : DK} {ex : XD} : ∀ (ts : List D) (t c3 c4 c5 c6 c7 : Cell), (∀ t c4 c5 c6 c7, k.nx [c0, .fz .row, t, c3, c4, c5, c6, c7]) → forW (gNm 2) (t_law_b1 a) k ex ts [c0, .fz .row, t, c3, c4, c5, c6, c7]
  | [], t, c3, c4, c5, c6, c7, h => h t c4 c5 c6 c7
  | d :: ts, t, c3, c4, c5, c6, c7, h => by
    show gNm 2 _ _ _ _
    have ih := fun t c4 c5 c6 c7 => loop_law (a := a) (c0 := c0) (k := k) (ex := ex) ts t c3 c4 c5 c6 c7 h
    exact law_b1 a fun c4 c5 c6 c7 => ih _ c4 c5 c6 c7
/-- what the law asks: it is kept -/
theorem law_law (a : Ad) {c0 : Cell} {q : D → Prop} {ex : XD} (h : q (.bl true)) : t_law a [c0, .fz .row, .off, .off, .off, .off, .off, .off] { nx := fun _ => q .non, rt := fun d _ => q d } ex := by
  unfold t_law t_law_s12
  simp only [sSeq, sIf, sRet, sRetN, sNx, sBk, sCt, sSet, sDrop, sAug, sAsg, sPar, sRaise, sSetF, cOf, cLst, cCb, cOp, dOf, dTest, dOp, dUn, dChain, dNot, dNotV, dAnd, dOr, dAndV, dOrV, dIf, dTru, dVar, dC, dCons, dNil, dTup, dLst, dCall, dCb, dIsT, dFld, dProp, dMake, dMethO, dMut, dCut, dTupR, dHeard, dnC, hSl, hOf, hNil, hCons, oSome, oNone, iSeq, iRng1D, iRng2D, gNm, gTp, gC0, gN0, gSto, dYes, kI0, kI, kU, kAdd, kMul, kEq, kNe, kLt, kIs, kIn, kInS, kIx, kLen, kList, kTuple, kInt, kRep, kAppend, kPopAt, kSAdd, kTru_bl, kTru_int, kTru_non, kTru_lst, kTru_tup, kTru_dic, isCell, peek, res, ress, cellD, startC, seqD, List.map_cons, List.map_nil, List.length_cons, List.length_nil, List.cons_append, List.nil_append, List.append_nil, List.replicate_succ, List.replicate_zero, Nat.reduceSub, Nat.reduceAdd, List.getElem?_cons_zero, List.getElem?_cons_succ, List.set_cons_zero, List.set_cons_succ, Option.bind_some, Option.some.injEq, Option.isSome_some, exists_eq_left, exists_eq_left', exists_eq_right, exists_eq_right', exists_and_left, exists_and_right, exists_const, and_assoc, and_true, true_and, Bool.not_true, Bool.not_false, reduceCtorEq, Option.map_some, D.obj.injEq, D.int.injEq, D.bl.injEq, D.lst.injEq, D.tup.injEq, D.str.injEq, Cell.fz.injEq, Cell.ow.injEq, Cell.os.injEq, List.cons.injEq, bIf_t, bIf_f, if_true, if_false, ite_true, ite_false, Bool.false_eq_true, and_self, false_and, and_false, implies_true, sFor]
  refine ⟨by decide, by decide, ?_⟩
  refine loop_law a _ _ _ _ _ _ _ fun t c4 c5 c6 c7 => ?_
  unfold t_law_s13
  simp only [sSeq, sIf, sRet, sRetN, sNx, sBk, sCt, sSet, sDrop, sAug, sAsg, sPar, sRaise, sSetF, cOf, cLst, cCb, cOp, dOf, dTest, dOp, dUn, dChain, dNot, dNotV, dAnd, dOr, dAndV, dOrV, dIf, dTru, dVar, dC, dCons, dNil, dTup, dLst, dCall, dCb, dIsT, dFld, dProp, dMake, dMethO, dMut, dCut, dTupR, dHeard, dnC, hSl, hOf, hNil, hCons, oSome, oNone, iSeq, iRng1D, iRng2D, gNm, gTp, gC0, gN0, gSto, dYes, kI0, kI, kU, kAdd, kMul, kEq, kNe, kLt, kIs, kIn, kInS, kIx, kLen, kList, kTuple, kInt, kRep, kAppend, kPopAt, kSAdd, kTru_bl, kTru_int, kTru_non, kTru_lst, kTru_tup, kTru_dic, isCell, peek, res, ress, cellD, startC, seqD, List.map_cons, List.map_nil, List.length_cons, List.length_nil, List.cons_append, List.nil_append, List.append_nil, List.replicate_succ, List.replicate_zero, Nat.reduceSub, Nat.reduceAdd, List.getElem?_cons_zero, List.getElem?_cons_succ, List.set_cons_zero, List.set_cons_succ, Option.bind_some, Option.some.injEq, Option.isSome_some, exists_eq_left, exists_eq_left', exists_eq_right, exists_eq_right', exists_and_left, exists_and_right, exists_const, and_assoc, and_true, true_and, Bool.not_true, Bool.not_false, reduceCtorEq, Option.map_some, D.obj.injEq, D.int.injEq, D.bl.injEq, D.lst.injEq, D.tup.injEq, D.str.injEq, Cell.fz.injEq, Cell.ow.injEq, Cell.os.injEq, List.cons.injEq, bIf_t, bIf_f, if_true, if_false, ite_true, ite_false, Bool.false_eq_true, and_self, false_and, and_false, implies_true, ds__law_taken]
  refine ⟨by decide, by decide, fun r hr hr2 => ⟨by decide, ?_⟩⟩
  refine ⟨_, rfl, by simp, by simp, fun d hd => ?_⟩
  obtain ⟨g, rfl, h9, h24⟩ : ∃ g : Int, d = .int g ∧ 9 ≤ g ∧ g ≤ 24 := by
    simp only [List.mem_cons, List.not_mem_nil, or_false] at hd
    rcases hd with rfl | rfl | rfl | rfl
    · exact ⟨24, rfl, by omega, by omega⟩
    · exact ⟨24, rfl, by omega, by omega⟩
    · exact ⟨23, rfl, by omega, by omega⟩
    · exact ⟨9 + r, rfl, by omega, by omega⟩
  unfold t_law_s14
  simp only [sSeq, sIf, sRet, sRetN, sNx, sBk, sCt, sSet, sDrop, sAug, sAsg, sPar, sRaise, sSetF, cOf, cLst, cCb, cOp, dOf, dTest, dOp, dUn, dChain, dNot, dNotV, dAnd, dOr, dAndV, dOrV, dIf, dTru, dVar, dC, dCons, dNil, dTup, dLst, dCall, dCb, dIsT, dFld, dProp, dMake, dMethO, dMut, dCut, dTupR, dHeard, dnC, hSl, hOf, hNil, hCons, oSome, oNone, iSeq, iRng1D, iRng2D, gNm, gTp, gC0, gN0, gSto, dYes, kI0, kI, kU, kAdd, kMul, kEq, kNe, kLt, kIs, kIn, kInS, kIx, kLen, kList, kTuple, kInt, kRep, kAppend, kPopAt, kSAdd, kTru_bl, kTru_int, kTru_non, kTru_lst, kTru_tup, kTru_dic, isCell, peek, res, ress, cellD, startC, seqD, List.map_cons, List.map_nil, List.length_cons, List.length_nil, List.cons_append, List.nil_append, List.append_nil, List.replicate_succ, List.replicate_zero, Nat.reduceSub, Nat.reduceAdd, List.getElem?_cons_zero, List.getElem?_cons_succ, List.set_cons_zero, List.set_cons_succ, Option.bind_some, Option.some.injEq, Option.isSome_some, exists_eq_left, exists_eq_left', exists_eq_right, exists_eq_right', exists_and_left, exists_and_right, exists_const, and_assoc, and_true, true_and, Bool.not_true, Bool.not_false, reduceCtorEq, Option.map_some, D.obj.injEq, D.int.injEq, D.bl.injEq, D.lst.injEq, D.tup.injEq, D.str.injEq, Cell.fz.injEq, Cell.ow.injEq, Cell.os.injEq, List.cons.injEq, bIf_t, bIf_f, if_true, if_false, ite_true, ite_false, Bool.false_eq_true, and_self, false_and, and_false, implies_true, ds__law_needs]
  refine ⟨by omega, h24, fun ps s up => ?_⟩
  have no := upward_no up
  unfold t_law_s16 t_law_s15
  simp only [sSeq, sIf, sRet, sRetN, sNx, sBk, sCt, sSet, sDrop, sAug, sAsg, sPar, sRaise, sSetF, cOf, cLst, cCb, cOp, dOf, dTest, dOp, dUn, dChain, dNot, dNotV, dAnd, dOr, dAndV, dOrV, dIf, dTru, dVar, dC, dCons, dNil, dTup, dLst, dCall, dCb, dIsT, dFld, dProp, dMake, dMethO, dMut, dCut, dTupR, dHeard, dnC, hSl, hOf, hNil, hCons, oSome, oNone, iSeq, iRng1D, iRng2D, gNm, gTp, gC0, gN0, gSto, dYes, kI0, kI, kU, kAdd, kMul, kEq, kNe, kLt, kIs, kIn, kInS, kIx, kLen, kList, kTuple, kInt, kRep, kAppend, kPopAt, kSAdd, kTru_bl, kTru_int, kTru_non, kTru_lst, kTru_tup, kTru_dic, isCell, peek, res, ress, cellD, startC, seqD, List.map_cons, List.map_nil, List.length_cons, List.length_nil, List.cons_append, List.nil_append, List.append_nil, List.replicate_succ, List.replicate_zero, Nat.reduceSub, Nat.reduceAdd, List.getElem?_cons_zero, List.getElem?_cons_succ, List.set_cons_zero, List.set_cons_succ, Option.bind_some, Option.some.injEq, Option.isSome_some, exists_eq_left, exists_eq_left', exists_eq_right, exists_eq_right', exists_and_left, exists_and_right, exists_const, and_assoc, and_true, true_and, Bool.not_true, Bool.not_false, reduceCtorEq, Option.map_some, D.obj.injEq, D.int.injEq, D.bl.injEq, D.lst.injEq, D.tup.injEq, D.str.injEq, Cell.fz.injEq, Cell.ow.injEq, Cell.os.injEq, List.cons.injEq, bIf_t, bIf_f, if_true, if_false, ite_true, ite_false, Bool.false_eq_true, and_self, false_and, and_false, implies_true, ds_Todo_needs]
  have he : eqD (.tup []) (.tup []) = true := by simp [eqD, eqDs]
  refine make_ok s (by omega) h24 (fun _ => ⟨Nat.zero_le _, by simp [okD, okDs], by simp [okD, okDs], ?_⟩) fun c hr => absurd hr (no c)
  rw [he, Bool.not_true, bIf_f]
  refine make_ok s (by omega) h24 (fun _ => ⟨g, ps, rfl, alike_same (okD_nD 10 ps) ?_⟩) fun c hr => absurd hr (no c)
  simp only [kTru_bl, Bool.not_true, bIf_f]
  have s0 : ∀ n : Int, Sound n [] := fun n => ⟨nofun, rfl⟩
  have no0 : ∀ c, ¬ Round [] c := upward_no ⟨fun x => x, nofun⟩
  unfold t_law_s18 t_law_s17
  simp only [sSeq, sIf, sRet, sRetN, sNx, sBk, sCt, sSet, sDrop, sAug, sAsg, sPar, sRaise, sSetF, cOf, cLst, cCb, cOp, dOf, dTest, dOp, dUn, dChain, dNot, dNotV, dAnd, dOr, dAndV, dOrV, dIf, dTru, dVar, dC, dCons, dNil, dTup, dLst, dCall, dCb, dIsT, dFld, dProp, dMake, dMethO, dMut, dCut, dTupR, dHeard, dnC, hSl, hOf, hNil, hCons, oSome, oNone, iSeq, iRng1D, iRng2D, gNm, gTp, gC0, gN0, gSto, dYes, kI0, kI, kU, kAdd, kMul, kEq, kNe, kLt, kIs, kIn, kInS, kIx, kLen, kList, kTuple, kInt, kRep, kAppend, kPopAt, kSAdd, kTru_bl, kTru_int, kTru_non, kTru_lst, kTru_tup, kTru_dic, isCell, peek, res, ress, cellD, startC, seqD, List.map_cons, List.map_nil, List.length_cons, List.length_nil, List.cons_append, List.nil_append, List.append_nil, List.replicate_succ, List.replicate_zero, Nat.reduceSub, Nat.reduceAdd, List.getElem?_cons_zero, List.getElem?_cons_succ, List.set_cons_zero, List.set_cons_succ, Option.bind_some, Option.some.injEq, Option.isSome_some, exists_eq_left, exists_eq_left', exists_eq_right, exists_eq_right', exists_and_left, exists_and_right, exists_const, and_assoc, and_true, true_and, Bool.not_true, Bool.not_false, reduceCtorEq, Option.map_some, D.obj.injEq, D.int.injEq, D.bl.injEq, D.lst.injEq, D.tup.injEq, D.str.injEq, Cell.fz.injEq, Cell.ow.injEq, Cell.os.injEq, List.cons.injEq, bIf_t, bIf_f, if_true, if_false, ite_true, ite_false, Bool.false_eq_true, and_self, false_and, and_false, implies_true, ds_Todo_needs, ds_Todo_many]
  refine make_ok (ps := []) (s0 g) (by omega) h24 (fun _ => ⟨g, [], rfl, ?_⟩) fun c hr => absurd hr (no0 c)
  refine make_ok (ps := []) (s0 g) (by omega) h24 (fun _ => ⟨g, ⟨[], rfl⟩, ?_⟩) fun c hr => absurd hr (no0 c)
  refine make_ok (ps := []) (s0 0) (by omega) (by omega) (fun _ => ⟨0, ⟨[], rfl⟩, ?_⟩) fun c hr => absurd hr (no0 c)
  refine ⟨by decide, Nat.zero_le _, by decide, ?_⟩
  refine alike_same (x := .tup [.tup [], .int g, .int 0]) (by simp [okD, okDs]) ?_
  simp only [kTru_bl, Bool.not_true, bIf_f]
  unfold t_law_s19
  simp only [sSeq, sIf, sRet, sRetN, sNx, sBk, sCt, sSet, sDrop, sAug, sAsg, sPar, sRaise, sSetF, cOf, cLst, cCb, cOp, dOf, dTest, dOp, dUn, dChain, dNot, dNotV, dAnd, dOr, dAndV, dOrV, dIf, dTru, dVar, dC, dCons, dNil, dTup, dLst, dCall, dCb, dIsT, dFld, dProp, dMake, dMethO, dMut, dCut, dTupR, dHeard, dnC, hSl, hOf, hNil, hCons, oSome, oNone, iSeq, iRng1D, iRng2D, gNm, gTp, gC0, gN0, gSto, dYes, kI0, kI, kU, kAdd, kMul, kEq, kNe, kLt, kIs, kIn, kInS, kIx, kLen, kList, kTuple, kInt, kRep, kAppend, kPopAt, kSAdd, kTru_bl, kTru_int, kTru_non, kTru_lst, kTru_tup, kTru_dic, isCell, peek, res, ress, cellD, startC, seqD, List.map_cons, List.map_nil, List.length_cons, List.length_nil, List.cons_append, List.nil_append, List.append_nil, List.replicate_succ, List.replicate_zero, Nat.reduceSub, Nat.reduceAdd, List.getElem?_cons_zero, List.getElem?_cons_succ, List.set_cons_zero, List.set_cons_succ, Option.bind_some, Option.some.injEq, Option.isSome_some, exists_eq_left, exists_eq_left', exists_eq_right, exists_eq_right', exists_and_left, exists_and_right, exists_const, and_assoc, and_true, true_and, Bool.not_true, Bool.not_false, reduceCtorEq, Option.map_some, D.obj.injEq, D.int.injEq, D.bl.injEq, D.lst.injEq, D.tup.injEq, D.str.injEq, Cell.fz.injEq, Cell.ow.injEq, Cell.os.injEq, List.cons.injEq, bIf_t, bIf_f, if_true, if_false, ite_true, ite_false, Bool.false_eq_true, and_self, false_and, and_false, implies_true, ds__law_refused]
  exact ⟨h9, h24, h⟩
end D7
namespace D7
open PySem PySem.Spec PyProof.Rows L2
/-- the row of draws, as a list of one's own -/
def rowC (ns : List Int) (i j k : Int) : Cell := .ow [.scr ns, .int i, .int j, .int k]
theorem atI_2 {x y z : D} {r : List D} : atI (x :: y :: z :: r) 2 = some z := by
  unfold atI ixN
  have : (2 : Int) < (r.length : Int) + 1 + 1 + 1 := by omega
  simp [this]
theorem atI_3 {x y z w : D} {r : List D} : atI (x :: y :: z :: w :: r) 3 = some w := by
  unfold atI ixN
  have : (3 : Int) < (r.length : Int) + 1 + 1 + 1 + 1 := by omega
  simp [this]
theorem law__law_taken (a : Ad) (ns : List Int) (i j k m : Int) (kk : DK) (ex : XD) (hi : 0 ≤ i) (hj : 0 ≤ j) (hk : 0 ≤ k) (hm : 0 < m) (hm2 : m < 2 ^ 60)
    (h : ∀ r i' j' k' c1 c2 c3, 0 ≤ r → r < m → 0 ≤ i' → 0 ≤ j' → 0 ≤ k' → kk.rt (.int r) [rowC ns i' j' k', c1, c2, c3]) :
    t__law_taken a [rowC ns i j k, .fz (.int m), .off, .off] kk ex := by
  have dv : ∀ v, CDivW v m := fun v => ⟨hm, by
    have e60 : (2 : Int) ^ 60 = 1152921504606846976 := by decide
    have : m.natAbs < 2 ^ 60 := by omega
    have := (Nat.log2_lt (by omega)).mpr this
    omega⟩
  have x1 : ixN 4 1 = some 1 := by decide
  have x2 : ixN 4 2 = some 2 := by decide
  have x3 : ixN 4 3 = some 3 := by decide
  unfold t__law_taken rowC
  simp only [sSeq, sIf, sRet, sRetN, sNx, sBk, sCt, sSet, sDrop, sAug, sAsg, sPar, sRaise, sSetF, cOf, cLst, cCb, cOp, dOf, dTest, dOp, dUn, dChain, dNot, dNotV, dAnd, dOr, dAndV, dOrV, dIf, dTru, dVar, dC, dCons, dNil, dTup, dLst, dCall, dCb, dIsT, dFld, dProp, dMake, dMethO, dMut, dCut, dTupR, dHeard, dnC, hSl, hOf, hNil, hCons, oSome, oNone, iSeq, iRng1D, iRng2D, gNm, gTp, gC0, gN0, gSto, dYes, kI0, kI, kU, kAdd, kMul, kEq, kNe, kLt, kIs, kIn, kInS, kIx, kLen, kList, kTuple, kInt, kRep, kAppend, kPopAt, kSAdd, kTru_bl, kTru_int, kTru_non, kTru_lst, kTru_tup, kTru_dic, isCell, peek, res, ress, cellD, startC, seqD, List.map_cons, List.map_nil, List.length_cons, List.length_nil, List.cons_append, List.nil_append, List.append_nil, List.replicate_succ, List.replicate_zero, Nat.reduceSub, Nat.reduceAdd, List.getElem?_cons_zero, List.getElem?_cons_succ, List.set_cons_zero, List.set_cons_succ, Option.bind_some, Option.some.injEq, Option.isSome_some, exists_eq_left, exists_eq_left', exists_eq_right, exists_eq_right', exists_and_left, exists_and_right, exists_const, and_assoc, and_true, true_and, Bool.not_true, Bool.not_false, reduceCtorEq, Option.map_some, D.obj.injEq, D.int.injEq, D.bl.injEq, D.lst.injEq, D.tup.injEq, D.str.injEq, Cell.fz.injEq, Cell.ow.injEq, Cell.os.injEq, List.cons.injEq, bIf_t, bIf_f, if_true, if_false, ite_true, ite_false, Bool.false_eq_true, and_self, false_and, and_false, implies_true]
  unfold t__law_taken_s4
  simp only [sSeq, sIf, sRet, sRetN, sNx, sBk, sCt, sSet, sDrop, sAug, sAsg, sPar, sRaise, sSetF, cOf, cLst, cCb, cOp, dOf, dTest, dOp, dUn, dChain, dNot, dNotV, dAnd, dOr, dAndV, dOrV, dIf, dTru, dVar, dC, dCons, dNil, dTup, dLst, dCall, dCb, dIsT, dFld, dProp, dMake, dMethO, dMut, dCut, dTupR, dHeard, dnC, hSl, hOf, hNil, hCons, oSome, oNone, iSeq, iRng1D, iRng2D, gNm, gTp, gC0, gN0, gSto, dYes, kI0, kI, kU, kAdd, kMul, kEq, kNe, kLt, kIs, kIn, kInS, kIx, kLen, kList, kTuple, kInt, kRep, kAppend, kPopAt, kSAdd, kTru_bl, kTru_int, kTru_non, kTru_lst, kTru_tup, kTru_dic, isCell, peek, res, ress, cellD, startC, seqD, List.map_cons, List.map_nil, List.length_cons, List.length_nil, List.cons_append, List.nil_append, List.append_nil, List.replicate_succ, List.replicate_zero, Nat.reduceSub, Nat.reduceAdd, List.getElem?_cons_zero, List.getElem?_cons_succ, List.set_cons_zero, List.set_cons_succ, Option.bind_some, Option.some.injEq, Option.isSome_some, exists_eq_left, exists_eq_left', exists_eq_right, exists_eq_right', exists_and_left, exists_and_right, exists_const, and_assoc, and_true, true_and, Bool.not_true, Bool.not_false, reduceCtorEq, Option.map_some, D.obj.injEq, D.int.injEq, D.bl.injEq, D.lst.injEq, D.tup.injEq, D.str.injEq, Cell.fz.injEq, Cell.ow.injEq, Cell.os.injEq, List.cons.injEq, bIf_t, bIf_f, if_true, if_false, ite_true, ite_false, Bool.false_eq_true, and_self, false_and, and_false, implies_true, atI_0, atI_1, atI_2, atI_3]
  refine bIf_of (fun e => ?_) fun e => ?_
  · unfold t__law_taken_s1 t__law_taken_s2 t__law_taken_s3
    simp only [sSeq, sIf, sRet, sRetN, sNx, sBk, sCt, sSet, sDrop, sAug, sAsg, sPar, sRaise, sSetF, cOf, cLst, cCb, cOp, dOf, dTest, dOp, dUn, dChain, dNot, dNotV, dAnd, dOr, dAndV, dOrV, dIf, dTru, dVar, dC, dCons, dNil, dTup, dLst, dCall, dCb, dIsT, dFld, dProp, dMake, dMethO, dMut, dCut, dTupR, dHeard, dnC, hSl, hOf, hNil, hCons, oSome, oNone, iSeq, iRng1D, iRng2D, gNm, gTp, gC0, gN0, gSto, dYes, kI0, kI, kU, kAdd, kMul, kEq, kNe, kLt, kIs, kIn, kInS, kIx, kLen, kList, kTuple, kInt, kRep, kAppend, kPopAt, kSAdd, kTru_bl, kTru_int, kTru_non, kTru_lst, kTru_tup, kTru_dic, isCell, peek, res, ress, cellD, startC, seqD, List.map_cons, List.map_nil, List.length_cons, List.length_nil, List.cons_append, List.nil_append, List.append_nil, List.replicate_succ, List.replicate_zero, Nat.reduceSub, Nat.reduceAdd, List.getElem?_cons_zero, List.getElem?_cons_succ, List.set_cons_zero, List.set_cons_succ, Option.bind_some, Option.some.injEq, Option.isSome_some, exists_eq_left, exists_eq_left', exists_eq_right, exists_eq_right', exists_and_left, exists_and_right, exists_const, and_assoc, and_true, true_and, Bool.not_true, Bool.not_false, reduceCtorEq, Option.map_some, D.obj.injEq, D.int.injEq, D.bl.injEq, D.lst.injEq, D.tup.injEq, D.str.injEq, Cell.fz.injEq, Cell.ow.injEq, Cell.os.injEq, List.cons.injEq, bIf_t, bIf_f, if_true, if_false, ite_true, ite_false, Bool.false_eq_true, and_self, false_and, and_false, implies_true, atI_0, atI_1, atI_2, atI_3, x1, x2, x3, List.length_set]
    exact ⟨hm, dv k, ⟨_, rfl⟩, h _ i j (k / m) _ _ _ (Int.emod_nonneg _ (by omega)) (Int.emod_lt_of_pos _ hm) hi hj (Int.ediv_nonneg hk (by omega))⟩
  · unfold t__law_taken_s5
    simp only [sSeq, sIf, sRet, sRetN, sNx, sBk, sCt, sSet, sDrop, sAug, sAsg, sPar, sRaise, sSetF, cOf, cLst, cCb, cOp, dOf, dTest, dOp, dUn, dChain, dNot, dNotV, dAnd, dOr, dAndV, dOrV, dIf, dTru, dVar, dC, dCons, dNil, dTup, dLst, dCall, dCb, dIsT, dFld, dProp, dMake, dMethO, dMut, dCut, dTupR, dHeard, dnC, hSl, hOf, hNil, hCons, oSome, oNone, iSeq, iRng1D, iRng2D, gNm, gTp, gC0, gN0, gSto, dYes, kI0, kI, kU, kAdd, kMul, kEq, kNe, kLt, kIs, kIn, kInS, kIx, kLen, kList, kTuple, kInt, kRep, kAppend, kPopAt, kSAdd, kTru_bl, kTru_int, kTru_non, kTru_lst, kTru_tup, kTru_dic, isCell, peek, res, ress, cellD, startC, seqD, List.map_cons, List.map_nil, List.length_cons, List.length_nil, List.cons_append, List.nil_append, List.append_nil, List.replicate_succ, List.replicate_zero, Nat.reduceSub, Nat.reduceAdd, List.getElem?_cons_zero, List.getElem?_cons_succ, List.set_cons_zero, List.set_cons_succ, Option.bind_some, Option.some.injEq, Option.isSome_some, exists_eq_left, exists_eq_left', exists_eq_right, exists_eq_right', exists_and_left, exists_and_right, exists_const, and_assoc, and_true, true_and, Bool.not_true, Bool.not_false, reduceCtorEq, Option.map_some, D.obj.injEq, D.int.injEq, D.bl.injEq, D.lst.injEq, D.tup.injEq, D.str.injEq, Cell.fz.injEq, Cell.ow.injEq, Cell.os.injEq, List.cons.injEq, bIf_t, bIf_f, if_true, if_false, ite_true, ite_false, Bool.false_eq_true, and_self, false_and, and_false, implies_true, atI_0, atI_1, atI_2, atI_3, x1, x2, x3, List.length_set]
    refine ⟨⟨_, rfl⟩, ?_⟩
    unfold t__law_taken_s8
    simp only [sSeq, sIf, sRet, sRetN, sNx, sBk, sCt, sSet, sDrop, sAug, sAsg, sPar, sRaise, sSetF, cOf, cLst, cCb, cOp, dOf, dTest, dOp, dUn, dChain, dNot, dNotV, dAnd, dOr, dAndV, dOrV, dIf, dTru, dVar, dC, dCons, dNil, dTup, dLst, dCall, dCb, dIsT, dFld, dProp, dMake, dMethO, dMut, dCut, dTupR, dHeard, dnC, hSl, hOf, hNil, hCons, oSome, oNone, iSeq, iRng1D, iRng2D, gNm, gTp, gC0, gN0, gSto, dYes, kI0, kI, kU, kAdd, kMul, kEq, kNe, kLt, kIs, kIn, kInS, kIx, kLen, kList, kTuple, kInt, kRep, kAppend, kPopAt, kSAdd, kTru_bl, kTru_int, kTru_non, kTru_lst, kTru_tup, kTru_dic, isCell, peek, res, ress, cellD, startC, seqD, List.map_cons, List.map_nil, List.length_cons, List.length_nil, List.cons_append, List.nil_append, List.append_nil, List.replicate_succ, List.replicate_zero, Nat.reduceSub, Nat.reduceAdd, List.getElem?_cons_zero, List.getElem?_cons_succ, List.set_cons_zero, List.set_cons_succ, Option.bind_some, Option.some.injEq, Option.isSome_some, exists_eq_left, exists_eq_left', exists_eq_right, exists_eq_right', exists_and_left, exists_and_right, exists_const, and_assoc, and_true, true_and, Bool.not_true, Bool.not_false, reduceCtorEq, Option.map_some, D.obj.injEq, D.int.injEq, D.bl.injEq, D.lst.injEq, D.tup.injEq, D.str.injEq, Cell.fz.injEq, Cell.ow.injEq, Cell.os.injEq, List.cons.injEq, bIf_t, bIf_f, if_true, if_false, ite_true, ite_false, Bool.false_eq_true, and_self, false_and, and_false, implies_true, atI_0, atI_1, atI_2, atI_3, List.length_map]
    intro _
    refine bIf_of (fun e2 => ?_) fun e2 => ?_
    · unfold t__law_taken_s6
      simp only [sSeq, sIf, sRet, sRetN, sNx, sBk, sCt, sSet, sDrop, sAug, sAsg, sPar, sRaise, sSetF, cOf, cLst, cCb, cOp, dOf, dTest, dOp, dUn, dChain, dNot, dNotV, dAnd, dOr, dAndV, dOrV, dIf, dTru, dVar, dC, dCons, dNil, dTup, dLst, dCall, dCb, dIsT, dFld, dProp, dMake, dMethO, dMut, dCut, dTupR, dHeard, dnC, hSl, hOf, hNil, hCons, oSome, oNone, iSeq, iRng1D, iRng2D, gNm, gTp, gC0, gN0, gSto, dYes, kI0, kI, kU, kAdd, kMul, kEq, kNe, kLt, kIs, kIn, kInS, kIx, kLen, kList, kTuple, kInt, kRep, kAppend, kPopAt, kSAdd, kTru_bl, kTru_int, kTru_non, kTru_lst, kTru_tup, kTru_dic, isCell, peek, res, ress, cellD, startC, seqD, List.map_cons, List.map_nil, List.length_cons, List.length_nil, List.cons_append, List.nil_append, List.append_nil, List.replicate_succ, List.replicate_zero, Nat.reduceSub, Nat.reduceAdd, List.getElem?_cons_zero, List.getElem?_cons_succ, List.set_cons_zero, List.set_cons_succ, Option.bind_some, Option.some.injEq, Option.isSome_some, exists_eq_left, exists_eq_left', exists_eq_right, exists_eq_right', exists_and_left, exists_and_right, exists_const, and_assoc, and_true, true_and, Bool.not_true, Bool.not_false, reduceCtorEq, Option.map_some, D.obj.injEq, D.int.injEq, D.bl.injEq, D.lst.injEq, D.tup.injEq, D.str.injEq, Cell.fz.injEq, Cell.ow.injEq, Cell.os.injEq, List.cons.injEq, bIf_t, bIf_f, if_true, if_false, ite_true, ite_false, Bool.false_eq_true, and_self, false_and, and_false, implies_true, atI_0, atI_1, atI_2, atI_3, x1, x2, x3, List.length_set]
      refine ⟨.inr ⟨by decide, by decide⟩, by decide, ⟨_, rfl⟩, ?_⟩
      unfold t__law_taken_s7
      simp only [sSeq, sIf, sRet, sRetN, sNx, sBk, sCt, sSet, sDrop, sAug, sAsg, sPar, sRaise, sSetF, cOf, cLst, cCb, cOp, dOf, dTest, dOp, dUn, dChain, dNot, dNotV, dAnd, dOr, dAndV, dOrV, dIf, dTru, dVar, dC, dCons, dNil, dTup, dLst, dCall, dCb, dIsT, dFld, dProp, dMake, dMethO, dMut, dCut, dTupR, dHeard, dnC, hSl, hOf, hNil, hCons, oSome, oNone, iSeq, iRng1D, iRng2D, gNm, gTp, gC0, gN0, gSto, dYes, kI0, kI, kU, kAdd, kMul, kEq, kNe, kLt, kIs, kIn, kInS, kIx, kLen, kList, kTuple, kInt, kRep, kAppend, kPopAt, kSAdd, kTru_bl, kTru_int, kTru_non, kTru_lst, kTru_tup, kTru_dic, isCell, peek, res, ress, cellD, startC, seqD, List.map_cons, List.map_nil, List.length_cons, List.length_nil, List.cons_append, List.nil_append, List.append_nil, List.replicate_succ, List.replicate_zero, Nat.reduceSub, Nat.reduceAdd, List.getElem?_cons_zero, List.getElem?_cons_succ, List.set_cons_zero, List.set_cons_succ, Option.bind_some, Option.some.injEq, Option.isSome_some, exists_eq_left, exists_eq_left', exists_eq_right, exists_eq_right', exists_and_left, exists_and_right, exists_const, and_assoc, and_true, true_and, Bool.not_true, Bool.not_false, reduceCtorEq, Option.map_some, D.obj.injEq, D.int.injEq, D.bl.injEq, D.lst.injEq, D.tup.injEq, D.str.injEq, Cell.fz.injEq, Cell.ow.injEq, Cell.os.injEq, List.cons.injEq, bIf_t, bIf_f, if_true, if_false, ite_true, ite_false, Bool.false_eq_true, and_self, false_and, and_false, implies_true, atI_0, atI_1, atI_2, atI_3, x1, x2, x3, List.length_set]
      refine ⟨⟨by decide, by decide⟩, hm, h _ (i + 1) _ k _ _ _ (Int.emod_nonneg _ (by omega)) (Int.emod_lt_of_pos _ hm) (by omega) (Int.emod_nonneg _ (by omega)) hk⟩
    · have e3 := of_decide_eq_false e2
      have lt : (i + 1 - 1).toNat < ns.length := by omega
      have ec : atI ns (i + 1 - 1) = some ns[(i + 1 - 1).toNat] := atI_nat (by omega) (List.getElem?_eq_getElem lt)
      unfold t__law_taken_s9
      simp only [sSeq, sIf, sRet, sRetN, sNx, sBk, sCt, sSet, sDrop, sAug, sAsg, sPar, sRaise, sSetF, cOf, cLst, cCb, cOp, dOf, dTest, dOp, dUn, dChain, dNot, dNotV, dAnd, dOr, dAndV, dOrV, dIf, dTru, dVar, dC, dCons, dNil, dTup, dLst, dCall, dCb, dIsT, dFld, dProp, dMake, dMethO, dMut, dCut, dTupR, dHeard, dnC, hSl, hOf, hNil, hCons, oSome, oNone, iSeq, iRng1D, iRng2D, gNm, gTp, gC0, gN0, gSto, dYes, kI0, kI, kU, kAdd, kMul, kEq, kNe, kLt, kIs, kIn, kInS, kIx, kLen, kList, kTuple, kInt, kRep, kAppend, kPopAt, kSAdd, kTru_bl, kTru_int, kTru_non, kTru_lst, kTru_tup, kTru_dic, isCell, peek, res, ress, cellD, startC, seqD, List.map_cons, List.map_nil, List.length_cons, List.length_nil, List.cons_append, List.nil_append, List.append_nil, List.replicate_succ, List.replicate_zero, Nat.reduceSub, Nat.reduceAdd, List.getElem?_cons_zero, List.getElem?_cons_succ, List.set_cons_zero, List.set_cons_succ, Option.bind_some, Option.some.injEq, Option.isSome_some, exists_eq_left, exists_eq_left', exists_eq_right, exists_eq_right', exists_and_left, exists_and_right, exists_const, and_assoc, and_true, true_and, Bool.not_true, Bool.not_false, reduceCtorEq, Option.map_some, D.obj.injEq, D.int.injEq, D.bl.injEq, D.lst.injEq, D.tup.injEq, D.str.injEq, Cell.fz.injEq, Cell.ow.injEq, Cell.os.injEq, List.cons.injEq, bIf_t, bIf_f, if_true, if_false, ite_true, ite_false, Bool.false_eq_true, and_self, false_and, and_false, implies_true, atI_0, atI_1, atI_2, atI_3, ec]
      generalize ns[(i + 1 - 1).toNat] = v
      unfold t__law_taken_s10
      simp only [sSeq, sIf, sRet, sRetN, sNx, sBk, sCt, sSet, sDrop, sAug, sAsg, sPar, sRaise, sSetF, cOf, cLst, cCb, cOp, dOf, dTest, dOp, dUn, dChain, dNot, dNotV, dAnd, dOr, dAndV, dOrV, dIf, dTru, dVar, dC, dCons, dNil, dTup, dLst, dCall, dCb, dIsT, dFld, dProp, dMake, dMethO, dMut, dCut, dTupR, dHeard, dnC, hSl, hOf, hNil, hCons, oSome, oNone, iSeq, iRng1D, iRng2D, gNm, gTp, gC0, gN0, gSto, dYes, kI0, kI, kU, kAdd, kMul, kEq, kNe, kLt, kIs, kIn, kInS, kIx, kLen, kList, kTuple, kInt, kRep, kAppend, kPopAt, kSAdd, kTru_bl, kTru_int, kTru_non, kTru_lst, kTru_tup, kTru_dic, isCell, peek, res, ress, cellD, startC, seqD, List.map_cons, List.map_nil, List.length_cons, List.length_nil, List.cons_append, List.nil_append, List.append_nil, List.replicate_succ, List.replicate_zero, Nat.reduceSub, Nat.reduceAdd, List.getElem?_cons_zero, List.getElem?_cons_succ, List.set_cons_zero, List.set_cons_succ, Option.bind_some, Option.some.injEq, Option.isSome_some, exists_eq_left, exists_eq_left', exists_eq_right, exists_eq_right', exists_and_left, exists_and_right, exists_const, and_assoc, and_true, true_and, Bool.not_true, Bool.not_false, reduceCtorEq, Option.map_some, D.obj.injEq, D.int.injEq, D.bl.injEq, D.lst.injEq, D.tup.injEq, D.str.injEq, Cell.fz.injEq, Cell.ow.injEq, Cell.os.injEq, List.cons.injEq, bIf_t, bIf_f, if_true, if_false, ite_true, ite_false, Bool.false_eq_true, and_self, false_and, and_false, implies_true, atI_0, atI_1, atI_2, atI_3, x1, x2, x3, List.length_set]
      refine ⟨.inr ⟨by decide, by decide⟩, by decide, ⟨_, rfl⟩, ?_⟩
      unfold t__law_taken_s12
      simp only [sSeq, sIf, sRet, sRetN, sNx, sBk, sCt, sSet, sDrop, sAug, sAsg, sPar, sRaise, sSetF, cOf, cLst, cCb, cOp, dOf, dTest, dOp, dUn, dChain, dNot, dNotV, dAnd, dOr, dAndV, dOrV, dIf, dTru, dVar, dC, dCons, dNil, dTup, dLst, dCall, dCb, dIsT, dFld, dProp, dMake, dMethO, dMut, dCut, dTupR, dHeard, dnC, hSl, hOf, hNil, hCons, oSome, oNone, iSeq, iRng1D, iRng2D, gNm, gTp, gC0, gN0, gSto, dYes, kI0, kI, kU, kAdd, kMul, kEq, kNe, kLt, kIs, kIn, kInS, kIx, kLen, kList, kTuple, kInt, kRep, kAppend, kPopAt, kSAdd, kTru_bl, kTru_int, kTru_non, kTru_lst, kTru_tup, kTru_dic, isCell, peek, res, ress, cellD, startC, seqD, List.map_cons, List.map_nil, List.length_cons, List.length_nil, List.cons_append, List.nil_append, List.append_nil, List.replicate_succ, List.replicate_zero, Nat.reduceSub, Nat.reduceAdd, List.getElem?_cons_zero, List.getElem?_cons_succ, List.set_cons_zero, List.set_cons_succ, Option.bind_some, Option.some.injEq, Option.isSome_some, exists_eq_left, exists_eq_left', exists_eq_right, exists_eq_right', exists_and_left, exists_and_right, exists_const, and_assoc, and_true, true_and, Bool.not_true, Bool.not_false, reduceCtorEq, Option.map_some, D.obj.injEq, D.int.injEq, D.bl.injEq, D.lst.injEq, D.tup.injEq, D.str.injEq, Cell.fz.injEq, Cell.ow.injEq, Cell.os.injEq, List.cons.injEq, bIf_t, bIf_f, if_true, if_false, ite_true, ite_false, Bool.false_eq_true, and_self, false_and, and_false, implies_true, atI_0, atI_1, atI_2, atI_3]
      refine ⟨⟨by decide, by decide, by decide⟩, bIf_of (fun e4 => ?_) fun e4 => ?_⟩
      · have e5 := of_decide_eq_true e4
        have e18 : (10 : Int) ^ Int.toNat 18 = 1000000000000000000 := by decide
        rw [e18] at e5
        unfold t__law_taken_s11
        simp only [sSeq, sIf, sRet, sRetN, sNx, sBk, sCt, sSet, sDrop, sAug, sAsg, sPar, sRaise, sSetF, cOf, cLst, cCb, cOp, dOf, dTest, dOp, dUn, dChain, dNot, dNotV, dAnd, dOr, dAndV, dOrV, dIf, dTru, dVar, dC, dCons, dNil, dTup, dLst, dCall, dCb, dIsT, dFld, dProp, dMake, dMethO, dMut, dCut, dTupR, dHeard, dnC, hSl, hOf, hNil, hCons, oSome, oNone, iSeq, iRng1D, iRng2D, gNm, gTp, gC0, gN0, gSto, dYes, kI0, kI, kU, kAdd, kMul, kEq, kNe, kLt, kIs, kIn, kInS, kIx, kLen, kList, kTuple, kInt, kRep, kAppend, kPopAt, kSAdd, kTru_bl, kTru_int, kTru_non, kTru_lst, kTru_tup, kTru_dic, isCell, peek, res, ress, cellD, startC, seqD, List.map_cons, List.map_nil, List.length_cons, List.length_nil, List.cons_append, List.nil_append, List.append_nil, List.replicate_succ, List.replicate_zero, Nat.reduceSub, Nat.reduceAdd, List.getElem?_cons_zero, List.getElem?_cons_succ, List.set_cons_zero, List.set_cons_succ, Option.bind_some, Option.some.injEq, Option.isSome_some, exists_eq_left, exists_eq_left', exists_eq_right, exists_eq_right', exists_and_left, exists_and_right, exists_const, and_assoc, and_true, true_and, Bool.not_true, Bool.not_false, reduceCtorEq, Option.map_some, D.obj.injEq, D.int.injEq, D.bl.injEq, D.lst.injEq, D.tup.injEq, D.str.injEq, Cell.fz.injEq, Cell.ow.injEq, Cell.os.injEq, List.cons.injEq, bIf_t, bIf_f, if_true, if_false, ite_true, ite_false, Bool.false_eq_true, and_self, false_and, and_false, implies_true, atI_0, atI_1, atI_2, atI_3, x1, x2, x3, List.length_set]
        refine ⟨dv v, ⟨_, rfl⟩, ?_⟩
        unfold t__law_taken_s13
        simp only [sSeq, sIf, sRet, sRetN, sNx, sBk, sCt, sSet, sDrop, sAug, sAsg, sPar, sRaise, sSetF, cOf, cLst, cCb, cOp, dOf, dTest, dOp, dUn, dChain, dNot, dNotV, dAnd, dOr, dAndV, dOrV, dIf, dTru, dVar, dC, dCons, dNil, dTup, dLst, dCall, dCb, dIsT, dFld, dProp, dMake, dMethO, dMut, dCut, dTupR, dHeard, dnC, hSl, hOf, hNil, hCons, oSome, oNone, iSeq, iRng1D, iRng2D, gNm, gTp, gC0, gN0, gSto, dYes, kI0, kI, kU, kAdd, kMul, kEq, kNe, kLt, kIs, kIn, kInS, kIx, kLen, kList, kTuple, kInt, kRep, kAppend, kPopAt, kSAdd, kTru_bl, kTru_int, kTru_non, kTru_lst, kTru_tup, kTru_dic, isCell, peek, res, ress, cellD, startC, seqD, List.map_cons, List.map_nil, List.length_cons, List.length_nil, List.cons_append, List.nil_append, List.append_nil, List.replicate_succ, List.replicate_zero, Nat.reduceSub, Nat.reduceAdd, List.getElem?_cons_zero, List.getElem?_cons_succ, List.set_cons_zero, List.set_cons_succ, Option.bind_some, Option.some.injEq, Option.isSome_some, exists_eq_left, exists_eq_left', exists_eq_right, exists_eq_right', exists_and_left, exists_and_right, exists_const, and_assoc, and_true, true_and, Bool.not_true, Bool.not_false, reduceCtorEq, Option.map_some, D.obj.injEq, D.int.injEq, D.bl.injEq, D.lst.injEq, D.tup.injEq, D.str.injEq, Cell.fz.injEq, Cell.ow.injEq, Cell.os.injEq, List.cons.injEq, bIf_t, bIf_f, if_true, if_false, ite_true, ite_false, Bool.false_eq_true, and_self, false_and, and_false, implies_true]
        exact ⟨hm, h _ (i + 1) _ (v / m) _ _ _ (Int.emod_nonneg _ (by omega)) (Int.emod_lt_of_pos _ hm) (by omega) (Int.emod_nonneg _ (by omega)) (Int.ediv_nonneg (by omega) (by omega))⟩
      · unfold t__law_taken_s13
        simp only [sSeq, sIf, sRet, sRetN, sNx, sBk, sCt, sSet, sDrop, sAug, sAsg, sPar, sRaise, sSetF, cOf, cLst, cCb, cOp, dOf, dTest, dOp, dUn, dChain, dNot, dNotV, dAnd, dOr, dAndV, dOrV, dIf, dTru, dVar, dC, dCons, dNil, dTup, dLst, dCall, dCb, dIsT, dFld, dProp, dMake, dMethO, dMut, dCut, dTupR, dHeard, dnC, hSl, hOf, hNil, hCons, oSome, oNone, iSeq, iRng1D, iRng2D, gNm, gTp, gC0, gN0, gSto, dYes, kI0, kI, kU, kAdd, kMul, kEq, kNe, kLt, kIs, kIn, kInS, kIx, kLen, kList, kTuple, kInt, kRep, kAppend, kPopAt, kSAdd, kTru_bl, kTru_int, kTru_non, kTru_lst, kTru_tup, kTru_dic, isCell, peek, res, ress, cellD, startC, seqD, List.map_cons, List.map_nil, List.length_cons, List.length_nil, List.cons_append, List.nil_append, List.append_nil, List.replicate_succ, List.replicate_zero, Nat.reduceSub, Nat.reduceAdd, List.getElem?_cons_zero, List.getElem?_cons_succ, List.set_cons_zero, List.set_cons_succ, Option.bind_some, Option.some.injEq, Option.isSome_some, exists_eq_left, exists_eq_left', exists_eq_right, exists_eq_right', exists_and_left, exists_and_right, exists_const, and_assoc, and_true, true_and, Bool.not_true, Bool.not_false, reduceCtorEq, Option.map_some, D.obj.injEq, D.int.injEq, D.bl.injEq, D.lst.injEq, D.tup.injEq, D.str.injEq, Cell.fz.injEq, Cell.ow.injEq, Cell.os.injEq, List.cons.injEq, bIf_t, bIf_f, if_true, if_false, ite_true, ite_false, Bool.false_eq_true, and_self, false_and, and_false, implies_true]
        exact ⟨hm, h _ (i + 1) _ k _ _ _ (Int.emod_nonneg _ (by omega)) (Int.emod_lt_of_pos _ hm) (by omega) (Int.emod_nonneg _ (by omega)) hk⟩
end D7
namespace D7
open PySem PySem.Spec PyProof.Rows L2 He
abbrev ff (f : Fa) : Fb := fun K => f.ok K
abbrev R : PySem.W.OpenRow := PySem.W.OpenLaw.row PySem.Challenge.rw_duethread_k00_lists_and_round_ways
def tl : List Fp := [("are_needs", none), ("_law_refused", none), ("law", none)]
def fns : List DefC := [
  { d := ⟨("is_number", none), "is_number", "is_number", defArgs (topS 7), defBody (topS 7), defScope (topS 7), [], []⟩ },
  { d := ⟨("check", none), "check", "check", defArgs (topS 8), defBody (topS 8), defScope (topS 8), [], []⟩ },
  { d := ⟨("are_needs", none), "are_needs", "are_needs", defArgs (topS 12), defBody (topS 12), defScope (topS 12), [], []⟩ },
  { d := ⟨("shortest_round", none), "shortest_round", "shortest_round", defArgs (topS 13), defBody (topS 13), defScope (topS 13), [], []⟩ },
  { d := ⟨("first_cycle", none), "first_cycle", "first_cycle", defArgs (topS 14), defBody (topS 14), defScope (topS 14), [], []⟩ },
  { d := ⟨("Todo", some "_masks"), "_masks", "Todo._masks", defArgs (inClass (topS 15) 1), defBody (inClass (topS 15) 1), defScope (inClass (topS 15) 1), [], []⟩ },
  ⟨⟨("Todo", some "many"), "many", "Todo.many", defArgs (inClass (topS 15) 2), defBody (inClass (topS 15) 2), defScope (inClass (topS 15) 2), [], []⟩, [], fun K => getA K "Todo" "many"⟩,
  ⟨⟨("Todo", some "needs"), "needs", "Todo.needs", defArgs (inClass (topS 15) 3), defBody (inClass (topS 15) 3), defScope (inClass (topS 15) 3), [], []⟩, [], fun K => getA K "Todo" "needs"⟩,
  { d := ⟨("Todo", some "__init__"), "__init__", "Todo.__init__", defArgs (inClass (topS 15) 0), defBody (inClass (topS 15) 0), defScope (inClass (topS 15) 0), [.adr (dflAt ("Todo", some "__init__") 0)], []⟩ },
  { d := ⟨("is_todo", none), "is_todo", "is_todo", defArgs (topS 16), defBody (topS 16), defScope (topS 16), [], []⟩ },
  { d := ⟨("_law_taken", none), "_law_taken", "_law_taken", defArgs (topS 18), defBody (topS 18), defScope (topS 18), [], []⟩ },
  { d := ⟨("_law_pick", none), "_law_pick", "_law_pick", defArgs (topS 19), defBody (topS 19), defScope (topS 19), [], []⟩ },
  { d := ⟨("_law_pairs", none), "_law_pairs", "_law_pairs", defArgs (topS 20), defBody (topS 20), defScope (topS 20), [], []⟩ },
  { d := ⟨("_law_shuffled", none), "_law_shuffled", "_law_shuffled", defArgs (topS 21), defBody (topS 21), defScope (topS 21), [], []⟩ },
  { d := ⟨("_law_needs", none), "_law_needs", "_law_needs", defArgs (topS 22), defBody (topS 22), defScope (topS 22), [], []⟩ },
  { d := ⟨("_law_rings", none), "_law_rings", "_law_rings", defArgs (topS 23), defBody (topS 23), defScope (topS 23), [], []⟩ },
  { d := ⟨("_law_alike", none), "_law_alike", "_law_alike", defArgs (topS 25), defBody (topS 25), defScope (topS 25), [], []⟩ },
  { d := ⟨("_law_refused", none), "_law_refused", "_law_refused", defArgs (topS 26), defBody (topS 26), defScope (topS 26), [], []⟩ },
  { d := ⟨("law", none), "law", "law", defArgs (topS 27), defBody (topS 27), defScope (topS 27), [], []⟩ },
  { d := ⟨("_law_heard", none), "_law_heard", "_law_heard", defArgs (topS 24), defBody (topS 24), defScope (topS 24), [], []⟩ },
  { d := ⟨("BadArgument", some "__init__"), "__init__", "BadArgument.__init__", defArgs (inClass (topS 3) 0), defBody (inClass (topS 3) 0), defScope (inClass (topS 3) 0), [], []⟩, clo := ["__class__"] },
  { d := ⟨("RoundAbout", some "__init__"), "__init__", "RoundAbout.__init__", defArgs (inClass (topS 4) 0), defBody (inClass (topS 4) 0), defScope (inClass (topS 4) 0), [], []⟩, clo := ["__class__"] }]
def facts : List Fb := [
  ff (.glo "DueError"),
  ff (.glo "BadArgument"),
  ff (.glo "RoundAbout"),
  ff (.glo "TooMany"),
  ff (.glo "Todo"),
  ff (.glo "is_number"),
  ff (.glo "check"),
  ff (.glo "are_needs"),
  ff (.glo "shortest_round"),
  ff (.glo "first_cycle"),
  ff (.glo "is_todo"),
  ff (.glo "_law_taken"),
  ff (.glo "_law_pick"),
  ff (.glo "_law_pairs"),
  ff (.glo "_law_shuffled"),
  ff (.glo "_law_needs"),
  ff (.glo "_law_rings"),
  ff (.glo "_law_alike"),
  ff (.glo "_law_refused"),
  ff (.glo "law"),
  ff (.glo "_law_heard"),
  ff (.int "MOST" 24),
  ff (.free "all"),
  ff (.free "bool"),
  ff (.cls "Todo"),
  ff (.free "dict"),
  ff (.free "int"),
  ff (.free "isinstance"),
  ff (.free "len"),
  ff (.free "list"),
  ff (.noat "Todo" "_ahead"),
  ff (.noat "Todo" "_many"),
  ff (.noat "Todo" "_needs"),
  ff (.noat "Todo" "_things"),
  ff (.free "range"),
  ff (.free "sorted"),
  ff (.free "str"),
  ff (.free "tuple"),
  ff (.free "zip"),
  ff (.free "super"),
  ff (.free "ValueError"),
  insB "Todo",
  ff (.mkr "Todo"),
  ff (.meth "Todo" "_masks"),
  propB "Todo" "many",
  propB "Todo" "needs",
  errB (R.prog.main.file) "BadArgument" ["name"],
  errB (R.prog.main.file) "RoundAbout" ["cycle"],
  heardB,
  kdsB ("shortest_round", none),
  tupAtB (dflAt ("Todo", some "__init__") 0) [],
  fun K => decide ((tl.map (tabOf K)).Nodup)]
abbrev hk : PySem.W.Hook := hookT 6 facts fns tl
def ob (s : PySem.W.SharedT) : AlT := obsTG 6 facts fns tl (HandSHeadRun.getT s)
theorem ob_eq (s : PySem.W.SharedT) : ob s = hk.obs s.abs := obsTG_eq (HandSHeadRun.getT_eq s)
abbrev vw : List Nat := [12, 26, 27]
def loose : List Str := ["_wall", "DueError", "BadArgument", "RoundAbout", "TooMany", "is_number", "check", "bits_of", "MOST", "shortest_round", "first_cycle", "Todo", "is_todo", "_law_taken", "_law_pick", "_law_pairs", "_law_shuffled", "_law_needs", "_law_rings", "_law_heard", "_law_alike"]
theorem run (w : World) : HandSHeadRun.RunEq R (PySem.W.view R.prog vw) hk ob 6000 loose w := by
  intro os
  kernel_rfl
end D7
namespace D7
open PySem PySem.Spec PyProof.Rows L2 He
def cf (K : PySem.W.Frag) : Cfg := ⟨K, [(tabOf K ("_law_refused", none), "_law_refused.<locals>.<lambda>"), (tabOf K ("law", none), "law.<locals>.<lambda>")], [tabOf K ("are_needs", none)]⟩
def adK (K : PySem.W.Frag) : Ad := ⟨ga K "DueError", ga K "BadArgument", ga K "RoundAbout", ga K "TooMany", ga K "Todo"⟩
abbrev csK (K : PySem.W.Frag) : List (Addr × Addr) := tl.map fun p => (codeOf K p, tabOf K p)
section
variable {P : Program} {w : World} {K : PySem.W.Frag} {h : Heap} {mg : Str → Option Value} {base : Heap}
theorem err_BadArgument (hfile : P.main.file = R.prog.main.file) (htop : (P.main.scope.names.lookup ("super" : Str)).isSome = false) (S : SaysT facts fns tl K h) (G : h.Ns mainGlobals mg) : ErrF P w (cf K) mg (adK K).BadArgument "name" := by
  obtain ⟨⟨cc, cda, T⟩, no, kp, ex, ty⟩ := errK_of (P := P) (S.m.fact 46) hfile rfl rfl rfl rfl (S.m.fns 20).1 (S.m.fns 20).2
  exact ⟨makesE1 T htop (free_ok S.kin G (S.m.fact 39)) rfl rfl rfl rfl (by decide) rfl rfl rfl rfl rfl rfl (by decide) (no _ (by simp)) (fun _ _ _ _ _ _ _ => rfl) rfl, kp, ex, ty⟩
theorem err_RoundAbout (hfile : P.main.file = R.prog.main.file) (htop : (P.main.scope.names.lookup ("super" : Str)).isSome = false) (S : SaysT facts fns tl K h) (G : h.Ns mainGlobals mg) : ErrF P w (cf K) mg (adK K).RoundAbout "cycle" := by
  obtain ⟨⟨cc, cda, T⟩, no, kp, ex, ty⟩ := errK_of (P := P) (S.m.fact 47) hfile rfl rfl rfl rfl (S.m.fns 21).1 (S.m.fns 21).2
  exact ⟨makesE1 T htop (free_ok S.kin G (S.m.fact 39)) rfl rfl rfl rfl (by decide) rfl rfl rfl rfl rfl rfl (by decide) (no _ (by simp)) (fun _ _ _ _ _ _ _ => rfl) rfl, kp, ex, ty⟩
theorem zf (hfile : P.main.file = R.prog.main.file) (htop : (P.main.scope.names.lookup ("super" : Str)).isSome = false) (S : SaysT facts fns tl K h) (G : h.Ns mainGlobals mg) : ZF P w (cf K) mg base (adK K) where
  ins := fun C hC => by
    simp only [List.mem_cons, List.not_mem_nil, or_false] at hC
    rcases hC with rfl
    · exact ins_ok (cls_ok (S.m.fact 24)) (S.m.fact 41)
  BadArgument := (glo_ok S.kin G (S.m.fact 1))
  MOST := int_ok S.kin G (S.m.fact 21)
  RoundAbout := (glo_ok S.kin G (S.m.fact 2))
  Todo := (glo_ok S.kin G (S.m.fact 4))
  all := (free_ok S.kin G (S.m.fact 22))
  bool := (free_ok S.kin G (S.m.fact 23))
  cTodo := cls_ok (S.m.fact 24)
  dict := (free_ok S.kin G (S.m.fact 25))
  eBadArgument := err_BadArgument hfile htop S G
  eRoundAbout := err_RoundAbout hfile htop S G
  int := (free_ok S.kin G (S.m.fact 26))
  isinstance := (free_ok S.kin G (S.m.fact 27))
  len := (free_ok S.kin G (S.m.fact 28))
  list := (free_ok S.kin G (S.m.fact 29))
  naTodo_ahead := noat_ok (S.m.fact 30)
  naTodo_many := noat_ok (S.m.fact 31)
  naTodo_needs := noat_ok (S.m.fact 32)
  naTodo_things := noat_ok (S.m.fact 33)
  range := (free_ok S.kin G (S.m.fact 34))
  sorted := (free_ok S.kin G (S.m.fact 35))
  str := (free_ok S.kin G (S.m.fact 36))
  tuple := (free_ok S.kin G (S.m.fact 37))
  zip := (free_ok S.kin G (S.m.fact 38))
theorem heard (S : SaysT facts fns tl K h) (G : h.Ns mainGlobals mg) : HeardZ (cf K) mg (adK K).BadArgument (adK K).RoundAbout (adK K).TooMany (adK K).DueError := by
  obtain ⟨fd, F⟩ := S.m.def0 19
  exact ⟨⟨_, fd, F, (glo_ok S.kin G (S.m.fact 20)), F.bindsN fun _ _ _ _ _ _ us hl => match us, hl with | [_], _ => rfl⟩, heard_ok (glo_ok S.kin G (S.m.fact 1)) (glo_ok S.kin G (S.m.fact 2)) (glo_ok S.kin G (S.m.fact 3)) (glo_ok S.kin G (S.m.fact 0)) (S.m.fact 48), (free_ok S.kin G (S.m.fact 27)), (free_ok S.kin G (S.m.fact 40))⟩
theorem tabs_nd (S : SaysT facts fns tl K h) : (tl.map (tabOf K)).Nodup := of_decide_eq_true (S.m.fact 51)
theorem gen_are_needs (S : SaysT facts fns tl K h) (tb : ∀ p ∈ csK K, LamX.TabB base mg p.1 p.2) {oc od fd sl} (e : K.lookup (fAd K ("are_needs", none)) = some ⟨oc, od, .func fd, sl⟩) : GenF (cf K) mg base fd.code (codeOf K ("are_needs", none)) (tabOf K ("are_needs", none)) := by
  have nd := tabs_nd S
  simp only [tl, List.map_cons, List.map_nil, List.nodup_cons, List.mem_cons, List.not_mem_nil, or_false, not_or] at nd
  have t := tb (codeOf K ("are_needs", none), tabOf K ("are_needs", none)) (by simp [csK, tl])
  refine ⟨by simp [cf], fun q hq => ?_, ⟨t.code, t.bm, t.gP⟩, codeOk_code (S.code _ (by simp [tl])) e⟩
  simp only [cf, List.mem_cons, List.not_mem_nil, or_false] at hq
  rcases hq with rfl | rfl
  all_goals (intro z; simp_all)
theorem lam__law_refused (S : SaysT facts fns tl K h) (tb : ∀ p ∈ csK K, LamX.TabB base mg p.1 p.2) {oc od fd sl} (e : K.lookup (fAd K ("_law_refused", none)) = some ⟨oc, od, .func fd, sl⟩) : LamF (cf K) mg base fd.code "_law_refused.<locals>.<lambda>" (codeOf K ("_law_refused", none)) (tabOf K ("_law_refused", none)) := by
  have nd := tabs_nd S
  simp only [tl, List.map_cons, List.map_nil, List.nodup_cons, List.mem_cons, List.not_mem_nil, or_false, not_or] at nd
  have t := tb (codeOf K ("_law_refused", none), tabOf K ("_law_refused", none)) (by simp [csK, tl])
  refine ⟨by simp [cf], fun q hq hz => ?_, fun hq => ?_, t, codeOk_code (S.code _ (by simp [tl])) e⟩
  · simp only [cf, List.mem_cons, List.not_mem_nil, or_false] at hq
    rcases hq with rfl | rfl
    all_goals first | rfl | (exfalso; simp_all)
  · simp only [cf, List.mem_cons, List.not_mem_nil, or_false] at hq
    simp_all
theorem lam_law (S : SaysT facts fns tl K h) (tb : ∀ p ∈ csK K, LamX.TabB base mg p.1 p.2) {oc od fd sl} (e : K.lookup (fAd K ("law", none)) = some ⟨oc, od, .func fd, sl⟩) : LamF (cf K) mg base fd.code "law.<locals>.<lambda>" (codeOf K ("law", none)) (tabOf K ("law", none)) := by
  have nd := tabs_nd S
  simp only [tl, List.map_cons, List.map_nil, List.nodup_cons, List.mem_cons, List.not_mem_nil, or_false, not_or] at nd
  have t := tb (codeOf K ("law", none), tabOf K ("law", none)) (by simp [csK, tl])
  refine ⟨by simp [cf], fun q hq hz => ?_, fun hq => ?_, t, codeOk_code (S.code _ (by simp [tl])) e⟩
  · simp only [cf, List.mem_cons, List.not_mem_nil, or_false] at hq
    rcases hq with rfl | rfl
    all_goals first | rfl | (exfalso; simp_all)
  · simp only [cf, List.mem_cons, List.not_mem_nil, or_false] at hq
    simp_all
/-- the law's def keeps its promise -/
theorem ends (hfile : P.main.file = R.prog.main.file) (htop : (P.main.scope.names.lookup ("super" : Str)).isSome = false) (S : SaysT facts fns tl K h) (G : h.Ns mainGlobals mg) {fa : Addr} (hfa : mg "law" = some (.ref fa)) :
    ∃ fd : FuncData, (∀ (s : Shared) (u : Value), BindsTo s fd ⟨[u], []⟩ [("script", u)]) ∧ ∀ base : Heap, K.In base → base.Ns mainGlobals mg → (∀ p ∈ csK K, LamX.TabB base mg p.1 p.2) → FnOk P w K mg base (L2.CX P w) 16 fa fd ["script"] (spLaw (cf K) 63) := by
  obtain ⟨fd_is_number, F_is_number⟩ : ∃ fd, FunD K "is_number" "is_number" (defArgs st_is_number) (defBody st_is_number) (defScope st_is_number) [] [] (ga K "is_number") fd := S.m.def0 0
  obtain ⟨fd_check, F_check⟩ : ∃ fd, FunD K "check" "check" (defArgs st_check) (defBody st_check) (defScope st_check) [] [] (ga K "check") fd := S.m.def0 1
  obtain ⟨fd_are_needs, F_are_needs⟩ : ∃ fd, FunD K "are_needs" "are_needs" (defArgs st_are_needs) (defBody st_are_needs) (defScope st_are_needs) [] [] (ga K "are_needs") fd := S.m.def0 2
  obtain ⟨fd_shortest_round, F_shortest_round⟩ : ∃ fd, FunD K "shortest_round" "shortest_round" (defArgs st_shortest_round) (defBody st_shortest_round) (defScope st_shortest_round) [] [] (ga K "shortest_round") fd := S.m.def0 3
  obtain ⟨fd_first_cycle, F_first_cycle⟩ : ∃ fd, FunD K "first_cycle" "first_cycle" (defArgs st_first_cycle) (defBody st_first_cycle) (defScope st_first_cycle) [] [] (ga K "first_cycle") fd := S.m.def0 4
  obtain ⟨fd_Todo__masks, F_Todo__masks⟩ : ∃ fd, FunD K "_masks" "Todo._masks" (defArgs st_Todo__masks) (defBody st_Todo__masks) (defScope st_Todo__masks) [] [] (fAd K ("Todo", some "_masks")) fd := S.m.def0 5
  obtain ⟨fd_Todo_many, F_Todo_many⟩ : ∃ fd, FunD K "many" "Todo.many" (defArgs st_Todo_many) (defBody st_Todo_many) (defScope st_Todo_many) [] [] (getA K "Todo" "many") fd := S.m.def0 6
  obtain ⟨fd_Todo_needs, F_Todo_needs⟩ : ∃ fd, FunD K "needs" "Todo.needs" (defArgs st_Todo_needs) (defBody st_Todo_needs) (defScope st_Todo_needs) [] [] (getA K "Todo" "needs") fd := S.m.def0 7
  obtain ⟨fd_Todo___init__, F_Todo___init__⟩ : ∃ fd, FunD K "__init__" "Todo.__init__" (defArgs st_Todo___init__) (defBody st_Todo___init__) (defScope st_Todo___init__) (([.adr (dflAt ("Todo", some "__init__") 0)] : List Dv).map (Dv.v K)) [] (fAd K ("Todo", some "__init__")) fd := S.m.def0 8
  obtain ⟨fd_is_todo, F_is_todo⟩ : ∃ fd, FunD K "is_todo" "is_todo" (defArgs st_is_todo) (defBody st_is_todo) (defScope st_is_todo) [] [] (ga K "is_todo") fd := S.m.def0 9
  obtain ⟨fd__law_taken, F__law_taken⟩ : ∃ fd, FunD K "_law_taken" "_law_taken" (defArgs st__law_taken) (defBody st__law_taken) (defScope st__law_taken) [] [] (ga K "_law_taken") fd := S.m.def0 10
  obtain ⟨fd__law_pick, F__law_pick⟩ : ∃ fd, FunD K "_law_pick" "_law_pick" (defArgs st__law_pick) (defBody st__law_pick) (defScope st__law_pick) [] [] (ga K "_law_pick") fd := S.m.def0 11
  obtain ⟨fd__law_pairs, F__law_pairs⟩ : ∃ fd, FunD K "_law_pairs" "_law_pairs" (defArgs st__law_pairs) (defBody st__law_pairs) (defScope st__law_pairs) [] [] (ga K "_law_pairs") fd := S.m.def0 12
  obtain ⟨fd__law_shuffled, F__law_shuffled⟩ : ∃ fd, FunD K "_law_shuffled" "_law_shuffled" (defArgs st__law_shuffled) (defBody st__law_shuffled) (defScope st__law_shuffled) [] [] (ga K "_law_shuffled") fd := S.m.def0 13
  obtain ⟨fd__law_needs, F__law_needs⟩ : ∃ fd, FunD K "_law_needs" "_law_needs" (defArgs st__law_needs) (defBody st__law_needs) (defScope st__law_needs) [] [] (ga K "_law_needs") fd := S.m.def0 14
  obtain ⟨fd__law_rings, F__law_rings⟩ : ∃ fd, FunD K "_law_rings" "_law_rings" (defArgs st__law_rings) (defBody st__law_rings) (defScope st__law_rings) [] [] (ga K "_law_rings") fd := S.m.def0 15
  obtain ⟨fd__law_alike, F__law_alike⟩ : ∃ fd, FunD K "_law_alike" "_law_alike" (defArgs st__law_alike) (defBody st__law_alike) (defScope st__law_alike) [] [] (ga K "_law_alike") fd := S.m.def0 16
  obtain ⟨fd__law_refused, F__law_refused⟩ : ∃ fd, FunD K "_law_refused" "_law_refused" (defArgs st__law_refused) (defBody st__law_refused) (defScope st__law_refused) [] [] (ga K "_law_refused") fd := S.m.def0 17
  obtain ⟨fd_law, F_law⟩ : ∃ fd, FunD K "law" "law" (defArgs st_law) (defBody st_law) (defScope st_law) [] [] (ga K "law") fd := S.m.def0 18
  cases hfa.symm.trans (glo_ok S.kin G (S.m.fact 19))
  have bl := F_law.bindsA (ps := ["script"]) fun _ _ _ _ _ _ us hl => match us, hl with | [_], _ => rfl
  refine ⟨fd_law, fun s u => bl s [u] rfl, fun base kb nb tb => ?_⟩
  have Z : ZF P w (cf K) mg base (adK K) := zf hfile htop S G
  have HZ := heard S G
  have k_is_number : FnOk P w K mg base (L2.CX P w) 1 _ fd_is_number ["value", "least", "most"] (spOf (cf K) (ds_is_number (adK K))) := fn_D F_is_number sc_is_number (fun args q ex hd => (by obtain ⟨_, _, _, e, _⟩ := hd; subst e; rfl)) (fun A outer s H E hr => b_is_number Z  hr) (law_is_number (adK K))
  have c_is_number : Callee P w (cf K) mg base "is_number" 1 ["value", "least", "most"] (ds_is_number (adK K)) [] := ⟨_, _, [], [], k_is_number, (glo_ok S.kin G (S.m.fact 5)), F_is_number.kp, F_is_number.bindsN (fun _ _ _ _ _ _ us hl => match us, hl with | [_, _, _], _ => rfl), .nil, fun _ => .nil⟩
  have k_check : FnOk P w K mg base (L2.CX P w) 3 _ fd_check ["is_right", "name"] (spOf (cf K) (ds_check (adK K))) := fn_D F_check sc_check (fun args q ex hd => (by obtain ⟨_, _, e, _⟩ := hd; subst e; rfl)) (fun A outer s H E hr => b_check Z  hr) (law_check (adK K))
  have c_check : Callee P w (cf K) mg base "check" 3 ["is_right", "name"] (ds_check (adK K)) [] := ⟨_, _, [], [], k_check, (glo_ok S.kin G (S.m.fact 6)), F_check.kp, F_check.bindsN (fun _ _ _ _ _ _ us hl => match us, hl with | [_, _], _ => rfl), .nil, fun _ => .nil⟩
  obtain ⟨_, _, _, _, _, _, _, _, _, _, e_are_needs, lk_are_needs, _⟩ := F_are_needs.ex
  have k_are_needs : FnOk P w K mg base (L2.CX P w) 2 _ fd_are_needs ["value", "many"] (spOf (cf K) (ds_are_needs (adK K))) := fn_D F_are_needs sc_are_needs (fun args q ex hd => (by obtain ⟨_, _, e, _⟩ := hd; subst e; rfl)) (fun A outer s H E hr => b_are_needs Z c_is_number (gen_are_needs S tb lk_are_needs) hr) (law_are_needs (adK K))
  have c_are_needs : Callee P w (cf K) mg base "are_needs" 2 ["value", "many"] (ds_are_needs (adK K)) [] := ⟨_, _, [], [], k_are_needs, (glo_ok S.kin G (S.m.fact 7)), F_are_needs.kp, F_are_needs.bindsN (fun _ _ _ _ _ _ us hl => match us, hl with | [_, _], _ => rfl), .nil, fun _ => .nil⟩
  obtain ⟨_, _, _, _, _, _, _, _, _, _, e_shortest_round, lk_shortest_round, _⟩ := F_shortest_round.ex
  have k_shortest_round : FnOk P w K mg base (L2.CX P w) 1 _ fd_shortest_round ["many", "needs", "begin"] (spOf (cf K) (ds_shortest_round (adK K))) := fn_D F_shortest_round sc_shortest_round (fun args q ex hd => (by obtain ⟨_, _, _, e, _⟩ := hd; subst e; rfl)) (fun A outer s H E hr => b_shortest_round Z (kds_ok (p := ("shortest_round", none)) (S.m.fact 49) lk_shortest_round) hr) (law_shortest_round (adK K))
  have c_shortest_round : Callee P w (cf K) mg base "shortest_round" 1 ["many", "needs", "begin"] (ds_shortest_round (adK K)) [] := ⟨_, _, [], [], k_shortest_round, (glo_ok S.kin G (S.m.fact 8)), F_shortest_round.kp, F_shortest_round.bindsN (fun _ _ _ _ _ _ us hl => match us, hl with | [_, _, _], _ => rfl), .nil, fun _ => .nil⟩
  have k_first_cycle : FnOk P w K mg base (L2.CX P w) 2 _ fd_first_cycle ["many", "needs"] (spOf (cf K) (ds_first_cycle (adK K))) := fn_D F_first_cycle sc_first_cycle (fun args q ex hd => (by obtain ⟨_, _, e, _⟩ := hd; subst e; rfl)) (fun A outer s H E hr => b_first_cycle Z c_shortest_round hr) (law_first_cycle (adK K))
  have c_first_cycle : Callee P w (cf K) mg base "first_cycle" 2 ["many", "needs"] (ds_first_cycle (adK K)) [] := ⟨_, _, [], [], k_first_cycle, (glo_ok S.kin G (S.m.fact 9)), F_first_cycle.kp, F_first_cycle.bindsN (fun _ _ _ _ _ _ us hl => match us, hl with | [_, _], _ => rfl), .nil, fun _ => .nil⟩
  have k_Todo__masks : FnOk P w K mg base (L2.CX P w) 1 _ fd_Todo__masks ["self"] (spOf (cf K) (ds_Todo__masks (adK K))) := fn_D F_Todo__masks sc_Todo__masks (fun args q ex hd => (by obtain ⟨_, _, _, e, _⟩ := hd; subst e; rfl)) (fun A outer s H E hr => b_Todo__masks Z  hr) (law_Todo__masks (adK K))
  have m_Todo__masks : MethF P w (cf K) mg base (adK K).Todo "_masks" 1 ["self"] (ds_Todo__masks (adK K)) := ⟨_, _, meth_ok (S.m.fact 43), k_Todo__masks, F_Todo__masks.bindsN (fun _ _ _ _ _ _ us hl => match us, hl with | [_], _ => rfl)⟩
  have k_Todo_many : FnOk P w K mg base (L2.CX P w) 1 _ fd_Todo_many ["self"] (spOf (cf K) (ds_Todo_many (adK K))) := fn_D F_Todo_many sc_Todo_many (fun args q ex hd => (by obtain ⟨_, _, e, _⟩ := hd; subst e; rfl)) (fun A outer s H E hr => b_Todo_many Z  hr) (law_Todo_many (adK K))
  have p_Todo_many : PropF P w (cf K) mg base (adK K).Todo "many" 1 ["self"] (ds_Todo_many (adK K)) := ⟨_, _, _, prop_ok (S.m.fact 44), k_Todo_many, F_Todo_many.bindsN (fun _ _ _ _ _ _ us hl => match us, hl with | [_], _ => rfl)⟩
  have k_Todo_needs : FnOk P w K mg base (L2.CX P w) 1 _ fd_Todo_needs ["self"] (spOf (cf K) (ds_Todo_needs (adK K))) := fn_D F_Todo_needs sc_Todo_needs (fun args q ex hd => (by obtain ⟨_, _, e, _⟩ := hd; subst e; rfl)) (fun A outer s H E hr => b_Todo_needs Z  hr) (law_Todo_needs (adK K))
  have p_Todo_needs : PropF P w (cf K) mg base (adK K).Todo "needs" 1 ["self"] (ds_Todo_needs (adK K)) := ⟨_, _, _, prop_ok (S.m.fact 45), k_Todo_needs, F_Todo_needs.bindsN (fun _ _ _ _ _ _ us hl => match us, hl with | [_], _ => rfl)⟩
  have k_Todo___init__ : FnOk P w K mg base (L2.CX P w) 4 _ fd_Todo___init__ ["self", "many", "needs"] (spInit (cf K) (adK K).Todo (di_Todo (adK K))) := fn_I F_Todo___init__ sc_Todo___init__ (fun args q ex hd => (by obtain ⟨_, _, e, _⟩ := hd; subst e; rfl)) (fun A outer s H E hr => b_Todo___init__ Z c_is_number c_check c_are_needs c_first_cycle m_Todo__masks hr) (fun x => law_Todo___init__ (adK K) x)
  obtain ⟨ds2, v2, b2_Todo⟩ := F_Todo___init__.binds1 (ps := ["self", "many", "needs"]) 3 1 (by simp) rfl fun _ _ _ _ _ _ _ us its hu hi => match us, its, hu, hi with | [_, _, _], [_], _, _ => ⟨_, rfl, rfl⟩
  have mk_Todo : Maker P w (cf K) mg base "Todo" (adK K).Todo 4 ["self", "many", "needs"] (di_Todo (adK K)) [] := ⟨_, _, _, _, mkr_ok (S.m.fact 42), k_Todo___init__, (glo_ok S.kin G (S.m.fact 4)), b2_Todo, v2, fun _ => .nil⟩
  obtain ⟨ds1, v1, b1_Todo⟩ := F_Todo___init__.binds1 (ps := ["self", "many", "needs"]) 2 0 (by simp) rfl fun _ _ _ _ _ _ _ us its hu hi => match us, its, hu, hi with | [_, _], [_], _, _ => ⟨_, rfl, rfl⟩
  have mk_Todo_d : Maker P w (cf K) mg base "Todo" (adK K).Todo 4 ["self", "many", "needs"] (di_Todo (adK K)) [.tup []] := ⟨_, _, _, _, mkr_ok (S.m.fact 42), k_Todo___init__, (glo_ok S.kin G (S.m.fact 4)), b1_Todo, v1, fun g => .cons (tupAt_nil (S.m.fact 50) g) .nil⟩
  have k_is_todo : FnOk P w K mg base (L2.CX P w) 1 _ fd_is_todo ["value"] (spOf (cf K) (ds_is_todo (adK K))) := fn_D F_is_todo sc_is_todo (fun args q ex hd => (by obtain ⟨_, e, _⟩ := hd; subst e; rfl)) (fun A outer s H E hr => b_is_todo Z  hr) (law_is_todo (adK K))
  have c_is_todo : Callee P w (cf K) mg base "is_todo" 1 ["value"] (ds_is_todo (adK K)) [] := ⟨_, _, [], [], k_is_todo, (glo_ok S.kin G (S.m.fact 10)), F_is_todo.kp, F_is_todo.bindsN (fun _ _ _ _ _ _ us hl => match us, hl with | [_], _ => rfl), .nil, fun _ => .nil⟩
  have k__law_taken : FnOk P w K mg base (L2.CX P w) 1 _ fd__law_taken ["row", "many"] (spOf (cf K) (ds__law_taken (adK K))) := fn_R (ws := [2, 3]) F__law_taken sc__law_taken (by decide) (fun args q ex hd => (by obtain ⟨m, e, _⟩ := hd; exact ⟨m, e, rfl⟩)) (by decide) (fun A outer s H E hr => b__law_taken Z hr)
    (fun m ns i j k q ex hd hi hj hk => (by
      obtain ⟨m', e, h0, h1, h2⟩ := hd
      cases e
      exact law__law_taken (adK K) ns i j k m _ _ hi hj hk h0 h1 fun r i' j' k' c1 c2 c3 r0 r1 hi' hj' hk' => ⟨⟨r, rfl⟩, h2 r r0 r1, i', j', k', rfl, hi', hj', hk'⟩))
  have c__law_taken : Callee P w (cf K) mg base "_law_taken" 1 ["row", "many"] (ds__law_taken (adK K)) [] := ⟨_, _, [], [], k__law_taken, (glo_ok S.kin G (S.m.fact 11)), F__law_taken.kp, F__law_taken.bindsN (fun _ _ _ _ _ _ us hl => match us, hl with | [_, _], _ => rfl), .nil, fun _ => .nil⟩
  have k__law_pick : FnOk P w K mg base (L2.CX P w) 2 _ fd__law_pick ["row", "some"] (spOf (cf K) (ds__law_pick (adK K))) := fn_D F__law_pick sc__law_pick (fun args q ex hd => (by obtain ⟨_, e, _⟩ := hd; subst e; rfl)) (fun A outer s H E hr => b__law_pick Z c__law_taken hr) (law__law_pick (adK K))
  have c__law_pick : Callee P w (cf K) mg base "_law_pick" 2 ["row", "some"] (ds__law_pick (adK K)) [] := ⟨_, _, [], [], k__law_pick, (glo_ok S.kin G (S.m.fact 12)), F__law_pick.kp, F__law_pick.bindsN (fun _ _ _ _ _ _ us hl => match us, hl with | [_, _], _ => rfl), .nil, fun _ => .nil⟩
  have k__law_pairs : FnOk P w K mg base (L2.CX P w) 2 _ fd__law_pairs ["row", "many"] (spOf (cf K) (ds__law_pairs (adK K))) := fn_D F__law_pairs sc__law_pairs (fun args q ex hd => (by obtain ⟨_, e, _⟩ := hd; subst e; rfl)) (fun A outer s H E hr => b__law_pairs Z c__law_taken hr) (law__law_pairs (adK K))
  have c__law_pairs : Callee P w (cf K) mg base "_law_pairs" 2 ["row", "many"] (ds__law_pairs (adK K)) [] := ⟨_, _, [], [], k__law_pairs, (glo_ok S.kin G (S.m.fact 13)), F__law_pairs.kp, F__law_pairs.bindsN (fun _ _ _ _ _ _ us hl => match us, hl with | [_, _], _ => rfl), .nil, fun _ => .nil⟩
  have k__law_shuffled : FnOk P w K mg base (L2.CX P w) 2 _ fd__law_shuffled ["row", "some"] (spOf (cf K) (ds__law_shuffled (adK K))) := fn_D F__law_shuffled sc__law_shuffled (fun args q ex hd => (by obtain ⟨_, e, _⟩ := hd; subst e; rfl)) (fun A outer s H E hr => b__law_shuffled Z c__law_taken hr) (law__law_shuffled (adK K))
  have c__law_shuffled : Callee P w (cf K) mg base "_law_shuffled" 2 ["row", "some"] (ds__law_shuffled (adK K)) [] := ⟨_, _, [], [], k__law_shuffled, (glo_ok S.kin G (S.m.fact 14)), F__law_shuffled.kp, F__law_shuffled.bindsN (fun _ _ _ _ _ _ us hl => match us, hl with | [_, _], _ => rfl), .nil, fun _ => .nil⟩
  have k__law_needs : FnOk P w K mg base (L2.CX P w) 3 _ fd__law_needs ["row", "many"] (spOf (cf K) (ds__law_needs (adK K))) := fn_D F__law_needs sc__law_needs (fun args q ex hd => (by obtain ⟨_, e, _⟩ := hd; subst e; rfl)) (fun A outer s H E hr => b__law_needs Z c__law_shuffled c__law_taken hr) (law__law_needs (adK K))
  have c__law_needs : Callee P w (cf K) mg base "_law_needs" 3 ["row", "many"] (ds__law_needs (adK K)) [] := ⟨_, _, [], [], k__law_needs, (glo_ok S.kin G (S.m.fact 15)), F__law_needs.kp, F__law_needs.bindsN (fun _ _ _ _ _ _ us hl => match us, hl with | [_, _], _ => rfl), .nil, fun _ => .nil⟩
  have k__law_rings : FnOk P w K mg base (L2.CX P w) 1 _ fd__law_rings ["many", "needs"] (spOf (cf K) (ds__law_rings (adK K))) := fn_D F__law_rings sc__law_rings (fun args q ex hd => (by obtain ⟨_, _, e, _⟩ := hd; subst e; rfl)) (fun A outer s H E hr => b__law_rings Z  hr) (law__law_rings (adK K))
  have c__law_rings : Callee P w (cf K) mg base "_law_rings" 1 ["many", "needs"] (ds__law_rings (adK K)) [] := ⟨_, _, [], [], k__law_rings, (glo_ok S.kin G (S.m.fact 16)), F__law_rings.kp, F__law_rings.bindsN (fun _ _ _ _ _ _ us hl => match us, hl with | [_, _], _ => rfl), .nil, fun _ => .nil⟩
  have b_alike : Binds K fd__law_alike ["found", "due"] [] := F__law_alike.bindsN (fun _ _ _ _ _ _ us hl => match us, hl with | [_, _], _ => rfl)
  have k_alike : ∀ (self : DSp) (kk n : Nat) (b : Bool), FnOk P w K mg base (L2.CX P w) kk _ fd__law_alike ["found", "due"] (spOf (cf K) self) → (b = true → ∀ found due q ex, okD n due = true → okD 50 found = true → q (.bl (alikeD found due)) → self [found, due] q ex) → ∀ m, (b = true ∧ m = n + 1 ∨ m = 0 ∧ n = 0) → FnOk P w K mg base (L2.CX P w) (kk + 1) (ga K "_law_alike") fd__law_alike ["found", "due"] (spOf (cf K) (dsA m)) := fun self kk n b ok hs m hm =>
    fn_D (k := kk) F__law_alike sc__law_alike (fun args q ex hd => (by obtain ⟨_, _, e, _⟩ := hd; subst e; rfl)) (fun A outer s H E hr => b__law_alike Z ⟨_, _, [], [], ok, (glo_ok S.kin G (S.m.fact 17)), F__law_alike.kp, b_alike, .nil, fun _ => .nil⟩ hr)
      (fun args q ex hd => (by
        obtain ⟨f, d, e, o1, o2, hq⟩ := hd
        rcases hm with ⟨hb, rfl⟩ | ⟨rfl, rfl⟩
        · exact law_alike_step (adK K) self n b hs args q ex ⟨f, d, e, o1, o2, hq⟩ (.inl hb)
        · exact law_alike_step (adK K) self 0 b hs args q ex ⟨f, d, e, okD_mono (by omega) o1, o2, hq⟩ (.inr ⟨f, d, e, o1⟩)))
  have k_none : FnOk P w K mg base (L2.CX P w) 1 (ga K "_law_alike") fd__law_alike ["found", "due"] (spOf (cf K) fun _ _ _ => False) := ⟨fun vs H Q E z => (by obtain ⟨_, _, _, _, _, _, z, _⟩ := z; exact z.elim), fun A outer s H args us vs Q E _ _ _ _ z => (by obtain ⟨_, _, _, _, _, _, z, _⟩ := z; exact z.elim)⟩
  have k_al : ∀ m, FnOk P w K mg base (L2.CX P w) (m + 2) (ga K "_law_alike") fd__law_alike ["found", "due"] (spOf (cf K) (dsA m)) := fun m => (by
    induction m with
    | zero => exact k_alike _ 1 0 false k_none nofun 0 (.inr ⟨rfl, rfl⟩)
    | succ n ih => exact k_alike _ (n + 2) n true ih (fun _ found due q ex o1 o2 hq => ⟨found, due, rfl, o1, o2, hq⟩) (n + 1) (.inl ⟨rfl, rfl⟩))
  have c__law_alike : Callee P w (cf K) mg base "_law_alike" 14 ["found", "due"] (ds__law_alike (adK K)) [] := ⟨_, _, [], [], k_al 12, (glo_ok S.kin G (S.m.fact 17)), F__law_alike.kp, b_alike, .nil, fun _ => .nil⟩
  obtain ⟨_, _, _, _, _, _, _, _, _, _, e__law_refused, lk__law_refused, _⟩ := F__law_refused.ex
  have k__law_refused : FnOk P w K mg base (L2.CX P w) 15 _ fd__law_refused ["row", "great"] (spOf (cf K) (ds__law_refused (adK K))) := fn_D F__law_refused sc__law_refused (fun args q ex hd => (by obtain ⟨_, e, _⟩ := hd; subst e; rfl)) (fun A outer s H E hr => b__law_refused Z c__law_taken c__law_pick mk_Todo c__law_alike mk_Todo_d HZ (lam__law_refused S tb lk__law_refused) hr) (law__law_refused (adK K))
  have c__law_refused : Callee P w (cf K) mg base "_law_refused" 15 ["row", "great"] (ds__law_refused (adK K)) [] := ⟨_, _, [], [], k__law_refused, (glo_ok S.kin G (S.m.fact 18)), F__law_refused.kp, F__law_refused.bindsN (fun _ _ _ _ _ _ us hl => match us, hl with | [_, _], _ => rfl), .nil, fun _ => .nil⟩
  obtain ⟨_, _, _, _, _, _, _, _, _, _, e_law, lk_law, _⟩ := F_law.ex
  exact fn_L F_law sc_law rfl (by decide) (by decide) (fun A outer s H E => ps_row (ps_set sc_law.nd rfl (by first | exact .inl rfl | exact .inr rfl) (pe_lst (pa_cons (pv 0) (pa_cons pe_int (pa_cons pe_int (pa_cons pe_int pa_nil))))))) (fun A outer s H E hr => b_law Z c__law_taken c__law_needs c__law_pairs c__law_pick c__law_rings mk_Todo p_Todo_many c__law_alike p_Todo_needs c_is_todo mk_Todo_d c__law_refused HZ (lam_law S tb lk_law) hr) (law_law (adK K) (q := fun d => d = .bl true) rfl)
end
end D7
open PySem PySem.W PySem.Calls PyProof.Rows
theorem PySem.Challenge.cw_duethread_k00_lists_and_round_ways_holds : PySem.Challenge.rw_duethread_k00_lists_and_round_ways.Holds := by
  w_on; o_law
  refine HandSHeadRun.head_any (r := OpenLaw.row PySem.Challenge.rw_duethread_k00_lists_and_round_ways) (q := view (OpenLaw.row PySem.Challenge.rw_duethread_k00_lists_and_round_ways).prog D7.vw) (H := D7.hk) (ob := D7.ob) (M := 6000) (loose := D7.loose) (d := HandSHeadRun.topDef (OpenLaw.row PySem.Challenge.rw_duethread_k00_lists_and_round_ways).prog 27) (kwd := []) D7.ob_eq
    (by kernel_rfl) (fun s => by kernel_rfl) D7.run (by kernel_rfl) (by kernel_rfl) (by kernel_rfl) (by rfl) (by first | assumption | decide +kernel) (by decide +kernel) ⟨rfl, rfl, rfl, rfl, rfl, by decide +kernel⟩ ?hw ?hc
  case hw => w_witness2
  case hc =>
    refine LamX.walk_ofTsE (l := PySem.Challenge.rw_duethread_k00_lists_and_round_ways) (n := 63) (k := 16) (x := "script") (CX := fun w => L2.CX (PySem.Challenge.rw_duethread_k00_lists_and_round_ways).prog w) rfl (by decide) (by kernel_rfl) ⟨rfl, by decide, by decide⟩ ?F (fun _ _ _ _ _ z => (by obtain ⟨_, _, _, _, _, _, _, _, _, _, _, _, z⟩ := z; exact z))
    intro w mg fa h Y G hmg0
    obtain ⟨K, S⟩ := Y
    have hmg : mg ("law" : PySem.Str) = some (.ref fa) := by
      have e : (HandSHeadRun.topDef (OpenLaw.row PySem.Challenge.rw_duethread_k00_lists_and_round_ways).prog 27).name = ("law" : PySem.Str) := by kernel_rfl
      rw [← e]
      exact hmg0
    obtain ⟨fd, hb, hF⟩ := D7.ends (P := (PySem.Challenge.rw_duethread_k00_lists_and_round_ways).prog) (w := w) (by kernel_rfl) (by kernel_rfl) S G hmg
    refine ⟨K, S.kin, fd, D7.csK K, D7.spLaw (D7.cf K) 63, fun p hp => ?_, fun p hp => ?_, fun p hp => ?_, hb, fun H a ns hl _ hT hS => ⟨a, ns, rfl, hl, fun p hp => ?_, fun p hp => ?_, hS, fun _ => rfl⟩, hF⟩
    · obtain ⟨q, hq, e⟩ := List.mem_map.mp hp
      rw [← e]
      exact S.tab q hq
    · obtain ⟨q, hq, e⟩ := List.mem_map.mp hp
      rw [← e]
      exact S.nolook hq
    · obtain ⟨q, hq, e⟩ := List.mem_map.mp hp
      rw [← e]
      exact S.hd hq
    · simp only [D7.cf, List.mem_cons, List.not_mem_nil, or_false] at hp
      rcases hp with rfl | rfl
      · exact hT (D7.codeOf K ("_law_refused", none), D7.tabOf K ("_law_refused", none)) (by simp [D7.csK, D7.tl])
      · exact hT (D7.codeOf K ("law", none), D7.tabOf K ("law", none)) (by simp [D7.csK, D7.tl])
    · simp only [D7.cf, List.mem_cons, List.not_mem_nil, or_false] at hp
      rcases hp with rfl
      · exact hT (D7.codeOf K ("are_needs", none), D7.tabOf K ("are_needs", none)) (by simp [D7.csK, D7.tl])
