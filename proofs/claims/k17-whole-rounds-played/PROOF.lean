import PyProof.Rows.All
import Wide.All
import OpenK.AllK
import Wide.FinOn
import KE.KStateDown
import HandS.ForMost
import HandS.Conv
import HandS.Style
import HandS.Flow
import HandS.Zip
import HandS.Star
import HandS.IsInst
import HandS.Property
import HandS.DictComp
import HandS.TupAny
import HandS.Deep
import HandS.Small
import HandS.Wide
import HandS.WideBits
import HandS.Defaults
import HandS.TupSets
import HandS.Set
import HandS.Walk
import HandS.Codes
import HandS.Head0
import HandS.Head1
import HandS.Head2
import HandS.HeadEnd
import HandS.HeadHook1
import HandS.HeadHook2
import HandS.SetFor
import KE.SortData
import HandS.SortKw
import KE.SortCalls
import KE.KMinBuiltin
import PyProof.MinMaxWalk
import PyProof.AutoSeq1
import HandS.Strs
import KE.GoesMore
import HandS.Iter
import PyProof.EnumMake
import HandS.NoneIn
import PySem.Challenge.RW_quietturns_k17_whole_rounds_played
set_option Elab.async false
set_option linter.all false
set_option maxRecDepth 100000
set_option maxHeartbeats 4000000
/-! Qa: the text by places, the callable bundle, data, what evaluates to what. -/
namespace Qt
open PySem PySem.Spec PyProof.Rows L2
/-! ### the text by places -/
def top (i : Nat) : Stmt := PySem.Challenge.pw_quietturns_k17_whole_rounds_played.main.body.getD i (.Pass ⟨0, 0, 0, 0⟩)

/-! ### a def that may be called by its name -/
/-- the def x stands in the module and keeps sp -/
def Cal (P : Program) (w : World) (K : PySem.W.Frag) (mg : Str → Option Value) (base : Heap) (x : Str) (ps : List Str) (k : Nat) (sp : Sp) : Prop :=
  ∃ (f : Addr) (fd : FuncData), FnOk P w K mg base CX0 k f fd ps sp ∧ mg x = some (.ref f) ∧ PySem.W.keepIn K (.ref f) = true ∧ Binds K fd ps []
/-- the def x stands in the module: its function object is the text's -/
def Std (K : PySem.W.Frag) (mg : Str → Option Value) (x : Str) (st : Stmt) : Prop :=
  ∃ (f : Addr) (fd : FuncData), FunD K x x (defArgs st) (defBody st) (defScope st) [] [] f fd ∧ mg x = some (.ref f)
section
variable {P : Program} {w : World} {K : PySem.W.Frag} {mg : Str → Option Value} {base : Heap} {x : Str} {ps : List Str} {k : Nat} {sp sp' : Sp} {st : Stmt}
theorem Std.cal {N : List Str} (D : Std K mg x st) (S : FnScope N ps (defScope st)) (len : ∀ vs H Q E, sp vs H Q E → vs.length = ps.length)
    (hb : ∀ (kV doc pm : Value) (an : Option Addr) (cdv ct : Value) (us : List Value), us.length = ps.length → bindArgs (PySem.W.fnOf x x (defArgs st) (defBody st) (defScope st) .none kV doc pm an cdv ct) ⟨us, []⟩ = pure (ps.zip us))
    (hbody : ∀ (f : Addr) (cdv : Value) (A : Around) (outer : List Env) (s : Shared) (H : Hp) (vs : List V) (Q : VK) (E : XK), Room k (A.deeper (envOfC x (defScope st) s.heap.objs.size f cdv)) → sp vs H Q E →
      ∃ t, PSs (cxOf CX0 P w K mg base N x (defScope st) f cdv A outer s H E).nox (defBody st) t ∧ t { nx := fun _ H' => Q .non H', rt := Q } (start N vs) H) : Cal P w K mg base x ps (k + 1) sp := by
  obtain ⟨f, fd, F, hm⟩ := D
  refine ⟨f, fd, ?_, hm, F.kp, ?_⟩
  · refine F.ok S len fun cdv A outer s H vs Q E hr h => ?_
    obtain ⟨t, h1, h2⟩ := hbody f cdv A outer s H vs Q E hr h
    exact ⟨t, h1.nox, h2⟩
  · exact F.bindsN hb
theorem Cal.mono {j : Nat} (c : Cal P w K mg base x ps j sp) (h : j ≤ k) : Cal P w K mg base x ps k sp := by
  obtain ⟨f, fd, F, r⟩ := c
  exact ⟨f, fd, F.mono h, r⟩
end
section
variable {X : Cx} {x : Str} {ps : List Str} {k : Nat} {sp : Sp} {e : Expr} {es : List Expr} {p pos : Pos} {t : TA}
theorem pe_cal (c : Cal X.prog X.w X.K X.mg X.base x ps k sp) (hr : Room k X.A) (ha : PA X (e :: es) t) (hg : Gl X x := by rfl) (hdb : (x == ("__debug__" : Str)) = false := by decide)
    (he : starEach (e :: es) X.env = (false, eval e X.env) :: starEach es X.env := by rfl) (hpl : (backTo pos (starEach es X.env)).any (·.1) = false := by rfl) :
    PE X (.Call (.Name x p) (e :: es) [] pos) (tCall sp [] E0 t) := by
  obtain ⟨f, fd, F, hm, hk, hb⟩ := c
  exact pe_call F hr hg hm hk hb .nil pass0 ha hdb he hpl
end

/-! ### the built-in names that the module does not bind -/
structure Blt (mg : Str → Option Value) : Prop where
  len : mg "len" = none
  tuple : mg "tuple" = none
  list : mg "list" = none
  sorted : mg "sorted" = none
  set : mg "set" = none
  all : mg "all" = none
  zip : mg "zip" = none
  range : mg "range" = none
  enumerate : mg "enumerate" = none
  isinstance : mg "isinstance" = none
  int : mg "int" = none
  str : mg "str" = none
  bool : mg "bool" = none
  min : mg "min" = none
  max : mg "max" = none
  abs : mg "abs" = none

/-! ### data that stand in tuples -/
mutual
inductive Rp (H : Hp) : V → PyData → Prop
  | non : Rp H .non .none
  | bl (b : Bool) : Rp H (.bl b) (.bool b)
  | int (i : Int) : Rp H (.int i) (.int i)
  | str (x : Str) : Rp H (.str x) (.str x)
  | tup {a : Addr} {xs : List V} {ds : List PyData} : H a = some (.tup xs) → RpAll H xs ds → Rp H (.ref a) (.tuple ds)
inductive RpAll (H : Hp) : List V → List PyData → Prop
  | nil : RpAll H [] []
  | cons {v : V} {vs : List V} {d : PyData} {ds : List PyData} : Rp H v d → RpAll H vs ds → RpAll H (v :: vs) (d :: ds)
end
/-- the tuples stand -/
def Tk (H H' : Hp) : Prop := ∀ a xs, H a = some (.tup xs) → H' a = some (.tup xs)
theorem Tk.refl (H : Hp) : Tk H H := fun _ _ h => h
theorem Tk.trans {H H1 H2 : Hp} (a : Tk H H1) (b : Tk H1 H2) : Tk H H2 := fun c xs h => b c xs (a c xs h)
theorem tk_same {H H' : Hp} (s : Same H H') : Tk H H' := fun _ _ h => s _ _ h
theorem tk_upd {H : Hp} {p : Addr} {o : HO} (h : ∀ xs, H p ≠ some (.tup xs)) : Tk H (upd H p o) := fun a xs q => by
  have n : a ≠ p := fun e => h xs (e ▸ q)
  rw [upd_ne n]
  exact q
mutual
theorem Rp.tk {H H' : Hp} (t : Tk H H') : ∀ (d : PyData) (v : V), Rp H v d → Rp H' v d
  | .none, _, h => by cases h; exact .non
  | .bool _, _, h => by cases h; exact .bl _
  | .int _, _, h => by cases h; exact .int _
  | .str _, _, h => by cases h; exact .str _
  | .tuple ds, _, h => by
    cases h with
    | tup h1 h2 => exact .tup (t _ _ h1) (RpAll.tk t ds _ h2)
  | .list _, _, h => by cases h
  | .dict _, _, h => by cases h
theorem RpAll.tk {H H' : Hp} (t : Tk H H') : ∀ (ds : List PyData) (vs : List V), RpAll H vs ds → RpAll H' vs ds
  | [], _, h => by cases h; exact .nil
  | d :: ds, _, h => by
    cases h with
    | cons h1 h2 => exact .cons (Rp.tk t d _ h1) (RpAll.tk t ds _ h2)
end
mutual
theorem Rp.dp {K : PySem.W.Frag} {H : Hp} : ∀ (d : PyData) (v : V), Rp H v d → Dp K H v d
  | .none, _, h => by cases h; exact .non
  | .bool _, _, h => by cases h; exact .bl _
  | .int _, _, h => by cases h; exact .int _
  | .str _, _, h => by cases h; exact .str _
  | .tuple ds, _, h => by
    cases h with
    | tup h1 h2 => exact .tup (SqT.of h1) (RpAll.dp ds _ h2)
  | .list _, _, h => by cases h
  | .dict _, _, h => by cases h
theorem RpAll.dp {K : PySem.W.Frag} {H : Hp} : ∀ (ds : List PyData) (vs : List V), RpAll H vs ds → DpAll K H vs ds
  | [], _, h => by cases h; exact .nil
  | d :: ds, _, h => by
    cases h with
    | cons h1 h2 => exact .cons (Rp.dp d _ h1) (RpAll.dp ds _ h2)
end
section
variable {H H' : Hp} {v : V} {d : PyData} {vs : List V} {ds : List PyData}
theorem Rp.up (h : Rp H v d) (t : Tk H H') : Rp H' v d := Rp.tk t d v h
theorem Rp.sm (h : Rp H v d) (t : Same H H') : Rp H' v d := Rp.tk (tk_same t) d v h
theorem RpAll.up (h : RpAll H vs ds) (t : Tk H H') : RpAll H' vs ds := RpAll.tk t ds vs h
theorem RpAll.sm (h : RpAll H vs ds) (t : Same H H') : RpAll H' vs ds := RpAll.tk (tk_same t) ds vs h
theorem RpAll.length (h : RpAll H vs ds) : vs.length = ds.length := by
  induction ds generalizing vs with
  | nil => cases h; rfl
  | cons d ds ih =>
    cases h with
    | cons h1 h2 => rw [List.length_cons, List.length_cons, ih h2]
theorem RpAll.get {i : Nat} {d : PyData} (h : RpAll H vs ds) (e : ds[i]? = some d) : ∃ v, vs[i]? = some v ∧ Rp H v d := by
  induction ds generalizing vs i with
  | nil => simp at e
  | cons d0 ds ih =>
    cases h with
    | cons h1 h2 =>
      cases i with
      | zero =>
        simp at e
        subst e
        exact ⟨_, rfl, h1⟩
      | succ i =>
        obtain ⟨v, e1, r⟩ := ih (i := i) h2 (by simpa using e)
        exact ⟨v, by simpa using e1, r⟩
theorem RpAll.at_ {i : Nat} {v : V} (h : RpAll H vs ds) (e : vs[i]? = some v) : ∃ d, ds[i]? = some d ∧ Rp H v d := by
  induction vs generalizing ds i with
  | nil => simp at e
  | cons v0 vs ih =>
    cases h with
    | cons h1 h2 =>
      cases i with
      | zero =>
        simp at e
        subst e
        exact ⟨_, rfl, h1⟩
      | succ i =>
        obtain ⟨d, e1, r⟩ := ih (i := i) h2 (by simpa using e)
        exact ⟨d, by simpa using e1, r⟩
theorem RpAll.append {vs' : List V} {ds' : List PyData} (h : RpAll H vs ds) (h' : RpAll H vs' ds') : RpAll H (vs ++ vs') (ds ++ ds') := by
  induction ds generalizing vs with
  | nil => cases h; exact h'
  | cons d ds ih =>
    cases h with
    | cons h1 h2 => exact .cons h1 (ih h2)
theorem RpAll.one (h : Rp H v d) : RpAll H [v] [d] := .cons h .nil
theorem RpAll.drop (h : RpAll H vs ds) (n : Nat) : RpAll H (vs.drop n) (ds.drop n) := by
  induction n generalizing vs ds with
  | zero => exact h
  | succ n ih =>
    cases h with
    | nil => exact .nil
    | cons h1 h2 => exact ih h2
theorem RpAll.take (h : RpAll H vs ds) (n : Nat) : RpAll H (vs.take n) (ds.take n) := by
  induction n generalizing vs ds with
  | zero => exact .nil
  | succ n ih =>
    cases h with
    | nil => exact .nil
    | cons h1 h2 => exact .cons h1 (ih h2)
theorem RpAll.rev (h : RpAll H vs ds) : RpAll H vs.reverse ds.reverse := by
  induction ds generalizing vs with
  | nil => cases h; exact .nil
  | cons d ds ih =>
    cases h with
    | cons h1 h2 =>
      rw [List.reverse_cons, List.reverse_cons]
      exact (ih h2).append (.one h1)
/-- texts -/
theorem rp_str {x : Str} (h : Rp H v (.str x)) : v = .str x := by cases h; rfl
theorem rp_int {i : Int} (h : Rp H v (.int i)) : v = .int i := by cases h; rfl
theorem rp_bl {b : Bool} (h : Rp H v (.bool b)) : v = .bl b := by cases h; rfl
theorem rp_tup (h : Rp H v (.tuple ds)) : ∃ a xs, v = .ref a ∧ H a = some (.tup xs) ∧ RpAll H xs ds := by
  cases h with
  | tup h1 h2 => exact ⟨_, _, rfl, h1, h2⟩
end
/-- a tuple of texts -/
abbrev tupS (xs : List Str) : PyData := .tuple (xs.map PyData.str)
theorem rp_tupS_all {H : Hp} : ∀ {xs : List Str} {vs : List V}, RpAll H vs (xs.map PyData.str) ↔ vs = xs.map V.str
  | [], vs => by
    constructor
    · intro h; cases h; rfl
    · rintro rfl; exact .nil
  | x :: xs, vs => by
    constructor
    · intro h
      cases h with
      | cons h1 h2 => rw [rp_str h1, rp_tupS_all.mp h2]; rfl
    · rintro rfl
      exact .cons (.str x) (rp_tupS_all.mpr rfl)
theorem rp_tupS {H : Hp} {v : V} {xs : List Str} (h : Rp H v (tupS xs)) : ∃ a, v = .ref a ∧ H a = some (.tup (xs.map V.str)) := by
  obtain ⟨a, ys, rfl, h1, h2⟩ := rp_tup h
  rw [rp_tupS_all.mp h2] at h1
  exact ⟨a, rfl, h1⟩
theorem rp_tupS_of {H : Hp} {a : Addr} {xs : List Str} (h : H a = some (.tup (xs.map V.str))) : Rp H (.ref a) (tupS xs) := .tup h (rp_tupS_all.mpr rfl)
end Qt
/-! Qha: the head's look, with properties. -/
namespace Qt
open PySem PySem.Spec PyProof.Rows L2
structure PrD where
  cls : Str
  f : Str
  qual : Str
  params : Arguments
  body : List Stmt
  scope : Scope
def PrD.p (K : PySem.W.Frag) (q : PrD) : Addr := He.ma K (He.ga K q.cls) q.f
def PrD.g (K : PySem.W.Frag) (q : PrD) : Addr := match PySem.W.recIn K (q.p K) "property" with
  | some (.ref g :: _) => g
  | _ => 0
def fnAt (K : PySem.W.Frag) (a : Addr) : He.FnW := match K.lookup a with
  | some ⟨_, _, .func fd, _⟩ => some (fd.name, fd.qualname, fd.params, fd.body, fd.scope, fd.globals, fd.closure, fd.builtins)
  | _ => none
def PrD.val (q : PrD) : He.FnW := some (q.f, q.qual, q.params, .stmts q.body, q.scope, mainGlobals, [], builtinsNs)
def fnOkAt (K : PySem.W.Frag) (a : Addr) (qual : Str) : Bool := PySem.W.keepIn K (.ref a) && (match K.lookup a with
  | some ⟨_, _, .func fd, _⟩ => PySem.W.codeIn K fd.code qual && (He.dflB K fd.defaults [] && He.kwdB K fd.kwdefaults [])
  | _ => false)
def PrD.ok (K : PySem.W.Frag) (q : PrD) : Bool := He.eqO (PySem.W.findIn K (.ref (He.ga K q.cls)) q.f) (some (some (.ref (q.p K)))) && (He.eqO (PySem.W.specialIn K (.ref (q.p K)) "__get__") (some (some (.builtin "property.__get__"))) && (decide (PySem.W.takesIn K (.ref (q.p K)) = some true) &&
  ((match PySem.W.recIn K (q.p K) "property" with
    | some (.ref _ :: _) => true
    | _ => false) && fnOkAt K (q.g K) q.qual)))
theorem funAt {K : PySem.W.Frag} {a : Addr} {q : PrD} (e : fnAt K a = q.val) (c : fnOkAt K a q.qual = true) : ∃ fd, FunD K q.f q.qual q.params q.body q.scope [] [] a fd := by
  obtain ⟨kp, c2⟩ := He.ba c
  unfold fnAt at e
  cases z : K.lookup a with
  | none =>
    rw [z] at c2
    cases c2
  | some o =>
    obtain ⟨oc, od, dt, osl⟩ := o
    rw [z] at c2 e
    cases dt with
    | func fd =>
      obtain ⟨n1, n2, n3, n4, n5, n6, n7, n8, n9, n10, n11, n12, n13, n14, n15⟩ := fd
      have e2 : (some (n1, n2, n3, n4, n5, n6, n7, n15) : He.FnW) = some (q.f, q.qual, q.params, .stmts q.body, q.scope, mainGlobals, [], builtinsNs) := e
      simp only [Option.some.injEq, Prod.mk.injEq] at e2
      obtain ⟨h1, h2, h3, h4, h5, h6, h7, h8⟩ := e2
      subst h1 h2 h3 h4 h5 h6 h7 h8
      have c3 : (PySem.W.codeIn K n13 q.qual && (He.dflB K n8 [] && He.kwdB K n9 [])) = true := c2
      obtain ⟨k1, k2⟩ := He.ba c3
      obtain ⟨k3, k4⟩ := He.ba k2
      exact ⟨_, ⟨oc, od, n8, n9, n10, n11, n12, n13, n14, osl, rfl, z, k1, He.dflB_ok k3, He.kwdB_ok k4⟩, kp⟩
    | _ => cases c2
theorem PrD.prop {K : PySem.W.Frag} {q : PrD} (c : q.ok K = true) (e : fnAt K (q.g K) = q.val) : ∃ a fd, PropOf K (He.ga K q.cls) q.f (q.p K) a ∧ FunD K q.f q.qual q.params q.body q.scope [] [] a fd := by
  obtain ⟨c1, c⟩ := He.ba c
  obtain ⟨c2, c⟩ := He.ba c
  obtain ⟨c3, c⟩ := He.ba c
  obtain ⟨c4, c5⟩ := He.ba c
  obtain ⟨fd, F⟩ := funAt e c5
  refine ⟨q.g K, fd, ⟨He.eqO_ok c1, He.eqO_ok c2, of_decide_eq_true c3, ?_⟩, F⟩
  unfold PrD.g
  cases z : PySem.W.recIn K (q.p K) "property" with
  | none => rw [z] at c4; cases c4
  | some l =>
    rw [z] at c4
    cases l with
    | nil => cases c4
    | cons v r =>
      cases v with
      | ref g => exact ⟨r, rfl⟩
      | _ => cases c4
abbrev AlP : Type := He.AlD × (Bool × List He.FnW)
def obsP (fa : List He.Fa) (fn : List He.DefD) (ps : List PrD) (K : PySem.W.Frag) : AlP := (He.obsD fa fn K, (ps.all fun q => q.ok K, ps.map fun q => fnAt K (q.g K)))
def valP (fn : List He.DefD) (ps : List PrD) : AlP := (He.valD fn, (true, ps.map PrD.val))
def SaysP (fa : List He.Fa) (fn : List He.DefD) (ps : List PrD) (K : PySem.W.Frag) : Prop := obsP fa fn ps K = valP fn ps
def obsPG (n : Nat) (fa : List He.Fa) (fn : List He.DefD) (ps : List PrD) (g : Addr → Option Obj) : AlP := obsP fa fn ps (He.frG g (He.asD g n))
def hookP (n : Nat) (fa : List He.Fa) (fn : List He.DefD) (ps : List PrD) : PySem.W.Hook where
  α := AlP
  obs := fun s => obsPG n fa fn ps s.heap.get?
  val := fun _ => valP fn ps
  says := fun _ h => ∃ K : PySem.W.Frag, K.In h ∧ SaysP fa fn ps K
  of := fun _ _ e => ⟨_, He.frG_in, e⟩
  keeps := fun _ _ _ ⟨K, hK, c⟩ k => ⟨K, PySem.W.Frag.In.keeps hK k, c⟩
theorem obsPG_eq {n : Nat} {fa : List He.Fa} {fn : List He.DefD} {ps : List PrD} {g : Addr → Option Obj} {s : Shared} (h : ∀ a, g a = s.heap.get? a) : obsPG n fa fn ps g = (hookP n fa fn ps).obs s := by
  have e : g = s.heap.get? := funext h
  rw [e] <;> rfl
section
variable {fa : List He.Fa} {fn : List He.DefD} {ps : List PrD} {K : PySem.W.Frag}
theorem SaysP.d (c : SaysP fa fn ps K) : He.SaysD fa fn K := congrArg (fun z : AlP => z.1) c
theorem SaysP.prop (c : SaysP fa fn ps K) (i : Nat) {q : PrD} (h : ps[i]? = some q := by rfl) : ∃ a fd, PropOf K (He.ga K q.cls) q.f (q.p K) a ∧ FunD K q.f q.qual q.params q.body q.scope [] [] a fd := by
  have c1 : (ps.all fun q => q.ok K) = true := congrArg (fun z : AlP => z.2.1) c
  have e : ps.map (fun q => fnAt K (q.g K)) = ps.map PrD.val := congrArg (fun z : AlP => z.2.2) c
  have e2 : (ps.map fun q => fnAt K (q.g K))[i]? = (ps.map PrD.val)[i]? := by rw [e]
  rw [List.getElem?_map, List.getElem?_map, h] at e2
  exact PrD.prop (List.all_eq_true.mp c1 q (List.mem_of_getElem? h)) (Option.some.inj e2)
end
end Qt
/-! Qhr: the head's run (printed by genhead.py). -/
namespace Qt
open PySem PySem.Spec PyProof.Rows L2
def clsS (c i : Nat) : Stmt := (C8.clsBody (top c)).getD i (.Pass ⟨0, 0, 0, 0⟩)
def fns0 : List He.DefD := [⟨("is_integer", none), "is_integer", "is_integer", defArgs (top 10), defBody (top 10), defScope (top 10), [], []⟩, ⟨("is_from", none), "is_from", "is_from", defArgs (top 11), defBody (top 11), defScope (top 11), [], []⟩, ⟨("is_name", none), "is_name", "is_name", defArgs (top 12), defBody (top 12), defScope (top 12), [], []⟩, ⟨("is_one_of", none), "is_one_of", "is_one_of", defArgs (top 13), defBody (top 13), defScope (top 13), [], []⟩, ⟨("is_tuple_of", none), "is_tuple_of", "is_tuple_of", defArgs (top 14), defBody (top 14), defScope (top 14), [], []⟩, ⟨("is_tuple_to", none), "is_tuple_to", "is_tuple_to", defArgs (top 15), defBody (top 15), defScope (top 15), [], []⟩, ⟨("are_ascending", none), "are_ascending", "are_ascending", defArgs (top 16), defBody (top 16), defScope (top 16), [], []⟩, ⟨("is_ascending_of", none), "is_ascending_of", "is_ascending_of", defArgs (top 17), defBody (top 17), defScope (top 17), [], []⟩, ⟨("are_routers", none), "are_routers", "are_routers", defArgs (top 27), defBody (top 27), defScope (top 27), [], []⟩, ⟨("is_link", none), "is_link", "is_link", defArgs (top 28), defBody (top 28), defScope (top 28), [], []⟩, ⟨("are_links", none), "are_links", "are_links", defArgs (top 29), defBody (top 29), defScope (top 29), [], []⟩, ⟨("distances_to", none), "distances_to", "distances_to", defArgs (top 35), defBody (top 35), defScope (top 35), [], []⟩]
def fns1 : List He.DefD := [⟨("lengths_of", none), "lengths_of", "lengths_of", defArgs (top 33), defBody (top 33), defScope (top 33), [], []⟩, ⟨("nexts_by", none), "nexts_by", "nexts_by", defArgs (top 36), defBody (top 36), defScope (top 36), [], []⟩, ⟨("tables_by", none), "tables_by", "tables_by", defArgs (top 37), defBody (top 37), defScope (top 37), [], []⟩, ⟨("next_tables", none), "next_tables", "next_tables", defArgs (top 38), defBody (top 38), defScope (top 38), [], []⟩, ⟨("check_like", none), "check_like", "check_like", defArgs (top 40), defBody (top 40), defScope (top 40), [], []⟩, ⟨("together", none), "together", "together", defArgs (top 21), defBody (top 21), defScope (top 21), [], []⟩, ⟨("moments_of", none), "moments_of", "moments_of", defArgs (top 20), defBody (top 20), defScope (top 20), [], []⟩, ⟨("links_towards", none), "links_towards", "links_towards", defArgs (top 41), defBody (top 41), defScope (top 41), [], []⟩, ⟨("ranked", none), "ranked", "ranked", defArgs (top 42), defBody (top 42), defScope (top 42), [], []⟩, ⟨("ring_in", none), "ring_in", "ring_in", defArgs (top 43), defBody (top 43), defScope (top 43), [], []⟩, ⟨("ring_for", none), "ring_for", "ring_for", defArgs (top 44), defBody (top 44), defScope (top 44), [], []⟩, ⟨("turns", none), "turns", "turns", defArgs (top 45), defBody (top 45), defScope (top 45), [], []⟩]
def fns2 : List He.DefD := [⟨("loss_for", none), "loss_for", "loss_for", defArgs (top 46), defBody (top 46), defScope (top 46), [], []⟩, ⟨("loss", none), "loss", "loss", defArgs (top 47), defBody (top 47), defScope (top 47), [], []⟩, ⟨("mixed", none), "mixed", "mixed", defArgs (top 19), defBody (top 19), defScope (top 19), [], []⟩, ⟨("Telling", some "is_sound"), "is_sound", "Telling.is_sound", defArgs (clsS 51 1), defBody (clsS 51 1), defScope (clsS 51 1), [], []⟩, ⟨("Telling", some "__init__"), "__init__", "Telling.__init__", defArgs (clsS 51 0), defBody (clsS 51 0), defScope (clsS 51 0), [], []⟩, ⟨("Telling", some "rounds_behind"), "rounds_behind", "Telling.rounds_behind", defArgs (clsS 51 2), defBody (clsS 51 2), defScope (clsS 51 2), [], []⟩, ⟨("Telling", some "led"), "led", "Telling.led", defArgs (clsS 51 3), defBody (clsS 51 3), defScope (clsS 51 3), [], []⟩, ⟨("Net", some "__init__"), "__init__", "Net.__init__", defArgs (clsS 30 0), defBody (clsS 30 0), defScope (clsS 30 0), [], []⟩, ⟨("rounds", none), "rounds", "rounds", defArgs (top 52), defBody (top 52), defScope (top 52), [], []⟩, ⟨("_law_take", none), "_law_take", "_law_take", defArgs (top 55), defBody (top 55), defScope (top 55), [], []⟩, ⟨("_law_pot", none), "_law_pot", "_law_pot", defArgs (top 54), defBody (top 54), defScope (top 54), [], []⟩, ⟨("_law_of", none), "_law_of", "_law_of", defArgs (top 57), defBody (top 57), defScope (top 57), [], []⟩]
def fns3 : List He.DefD := [⟨("_law_turned", none), "_law_turned", "_law_turned", defArgs (top 58), defBody (top 58), defScope (top 58), [], []⟩, ⟨("_law_names", none), "_law_names", "_law_names", defArgs (top 59), defBody (top 59), defScope (top 59), [], []⟩, ⟨("_law_far", none), "_law_far", "_law_far", defArgs (top 60), defBody (top 60), defScope (top 60), [], []⟩, ⟨("_law_pairs", none), "_law_pairs", "_law_pairs", defArgs (top 61), defBody (top 61), defScope (top 61), [], []⟩, ⟨("_law_world", none), "_law_world", "_law_world", defArgs (top 62), defBody (top 62), defScope (top 62), [], []⟩, ⟨("_law_made", none), "_law_made", "_law_made", defArgs (top 63), defBody (top 63), defScope (top 63), [], []⟩, ⟨("_law_with", none), "_law_with", "_law_with", defArgs (top 68), defBody (top 68), defScope (top 68), [], []⟩, ⟨("_law_without", none), "_law_without", "_law_without", defArgs (top 69), defBody (top 69), defScope (top 69), [], []⟩, ⟨("_law_shifted", none), "_law_shifted", "_law_shifted", defArgs (top 70), defBody (top 70), defScope (top 70), [], []⟩, ⟨("_law_lengths", none), "_law_lengths", "_law_lengths", defArgs (top 64), defBody (top 64), defScope (top 64), [], []⟩, ⟨("_law_far_from", none), "_law_far_from", "_law_far_from", defArgs (top 65), defBody (top 65), defScope (top 65), [], []⟩, ⟨("_law_tables", none), "_law_tables", "_law_tables", defArgs (top 66), defBody (top 66), defScope (top 66), [], []⟩]
def fns4 : List He.DefD := [⟨("_law_tables_of", none), "_law_tables_of", "_law_tables_of", defArgs (top 67), defBody (top 67), defScope (top 67), [], []⟩, ⟨("_law_near", none), "_law_near", "_law_near", defArgs (top 71), defBody (top 71), defScope (top 71), [], []⟩, ⟨("_law_pots", none), "_law_pots", "_law_pots", defArgs (top 56), defBody (top 56), defScope (top 56), [], []⟩, ⟨("_law_pair", none), "_law_pair", "_law_pair", defArgs (top 72), defBody (top 72), defScope (top 72), [], []⟩, ⟨("_law_now", none), "_law_now", "_law_now", defArgs (top 73), defBody (top 73), defScope (top 73), [], []⟩, ⟨("_law_gone_on", none), "_law_gone_on", "_law_gone_on", defArgs (top 74), defBody (top 74), defScope (top 74), [], []⟩, ⟨("_law_deed", none), "_law_deed", "_law_deed", defArgs (top 75), defBody (top 75), defScope (top 75), [], []⟩, ⟨("_law_ended", none), "_law_ended", "_law_ended", defArgs (top 76), defBody (top 76), defScope (top 76), [], []⟩, ⟨("_law_fine", none), "_law_fine", "_law_fine", defArgs (top 77), defBody (top 77), defScope (top 77), [], []⟩, ⟨("law", none), "law", "law", defArgs (top 78), defBody (top 78), defScope (top 78), [], []⟩]
def fns : List He.DefD := fns0 ++ fns1 ++ fns2 ++ fns3 ++ fns4
def fas0 : List He.Fa := [.glo "is_integer", .glo "is_from", .glo "is_name", .glo "is_one_of", .glo "is_tuple_of", .glo "is_tuple_to", .glo "are_ascending", .glo "is_ascending_of", .glo "are_routers", .glo "is_link", .glo "are_links", .glo "distances_to"]
def fas1 : List He.Fa := [.glo "lengths_of", .glo "nexts_by", .glo "tables_by", .glo "next_tables", .glo "check_like", .glo "together", .glo "moments_of", .glo "links_towards", .glo "ranked", .glo "ring_in", .glo "ring_for", .glo "turns"]
def fas2 : List He.Fa := [.glo "loss_for", .glo "loss", .glo "mixed", .meth "Telling" "is_sound", .meth "Telling" "__init__", .meth "Telling" "rounds_behind", .meth "Telling" "led", .meth "Net" "__init__", .glo "rounds", .glo "_law_take", .glo "_law_pot", .glo "_law_of"]
def fas3 : List He.Fa := [.glo "_law_turned", .glo "_law_names", .glo "_law_far", .glo "_law_pairs", .glo "_law_world", .glo "_law_made", .glo "_law_with", .glo "_law_without", .glo "_law_shifted", .glo "_law_lengths", .glo "_law_far_from", .glo "_law_tables"]
def fas4 : List He.Fa := [.glo "_law_tables_of", .glo "_law_near", .glo "_law_pots", .glo "_law_pair", .glo "_law_now", .glo "_law_gone_on", .glo "_law_deed", .glo "_law_ended", .glo "_law_fine", .free "len", .free "tuple", .free "list"]
def fas5 : List He.Fa := [.free "sorted", .free "set", .free "all", .free "zip", .free "range", .free "enumerate", .free "isinstance", .free "int", .free "str", .free "bool", .free "min", .free "max"]
def fas6 : List He.Fa := [.free "abs", .str "LETTERS" "abcdefghijklmnopqrstuvwxyz", .int "LONGEST_NAME" 8, .int "FEWEST_ROUTERS" 2, .int "MOST_ROUTERS" 8, .int "MOST_LINKS" 16, .int "LINK" 4, .str "ROUNDS" "rounds", .str "NONE" "none", .glo "law", .cls "Net", .cls "Telling"]
def fas7 : List He.Fa := [.glo "Net", .glo "Telling", .mkr "Net", .mkr "Telling", .noat "Net" "own_routers", .noat "Net" "own_links", .noat "Telling" "own_routers", .noat "Telling" "own_tables", .noat "Telling" "own_others"]
def fas : List He.Fa := fas0 ++ fas1 ++ fas2 ++ fas3 ++ fas4 ++ fas5 ++ fas6 ++ fas7
def prs : List PrD := [⟨"Net", "routers", "Net.routers", defArgs (clsS 30 1), defBody (clsS 30 1), defScope (clsS 30 1)⟩, ⟨"Net", "links", "Net.links", defArgs (clsS 30 2), defBody (clsS 30 2), defScope (clsS 30 2)⟩]
def loose0 : List PySem.Str := ["_wall", "NetError", "BadNet", "NoRouter", "NoLink", "Unlike", "LETTERS", "LONGEST_NAME", "is_integer", "is_from", "is_name", "is_one_of"]
def loose1 : List PySem.Str := ["is_tuple_of", "is_tuple_to", "are_ascending", "is_ascending_of", "mixed", "moments_of", "together", "FEWEST_ROUTERS", "MOST_ROUTERS", "MOST_LINKS", "LINK", "are_routers"]
def loose2 : List PySem.Str := ["is_link", "are_links", "Net", "check_routers", "link_of", "lengths_of", "distances_to", "nexts_by", "tables_by", "next_tables", "check_like", "links_towards"]
def loose3 : List PySem.Str := ["ranked", "ring_in", "ring_for", "turns", "loss_for", "loss", "ROUNDS", "NONE", "Telling", "rounds", "_law_pot", "_law_take"]
def loose4 : List PySem.Str := ["_law_pots", "_law_of", "_law_turned", "_law_names", "_law_far", "_law_pairs", "_law_world", "_law_made", "_law_lengths", "_law_far_from", "_law_tables", "_law_tables_of"]
def loose5 : List PySem.Str := ["_law_with", "_law_without", "_law_shifted", "_law_near", "_law_pair", "_law_now", "_law_gone_on", "_law_deed", "_law_ended", "_law_fine"]
def loose : List PySem.Str := loose0 ++ loose1 ++ loose2 ++ loose3 ++ loose4 ++ loose5
abbrev RowQ : PySem.W.OpenRow := PySem.W.OpenLaw.row PySem.Challenge.rw_quietturns_k17_whole_rounds_played
abbrev hk : PySem.W.Hook := hookP 5 fas fns prs
def ob (s : PySem.W.SharedT) : AlP := obsPG 5 fas fns prs (HandSHeadRun.getT s)
theorem ob_eq (s : PySem.W.SharedT) : ob s = hk.obs s.abs := obsPG_eq (HandSHeadRun.getT_eq s)
set_option maxHeartbeats 0 in
theorem run (w : World) : HandSHeadRun.RunEq RowQ (PySem.W.view RowQ.prog [78]) hk ob 4000 loose w := by
  intro os
  kernel_rfl
end Qt
/-! Qt1: sets, whatever their members are: set(a list), told by one structure (a word of the member, a word of the set). -/
namespace Qt
open PySem PySem.Spec PyProof.Rows L2
def setObj0 (w : World) : Obj := { cls := .type "set", dict := none, data := .set #[] 0 (.fresh 0 0 (!w.params.followText "set-order")) }
structure SetW (P : Program) (w : World) {κ : Type} (isE : Heap → Value → κ → Prop) (Sx : Heap → Addr → List (Value × κ) → Prop) : Prop where
  keepE : ∀ {h h' : Heap} {v : Value} {k : κ}, isE h v k → (∀ b o, h.get? b = some o → h'.get? b = some o) → isE h' v k
  keepS : ∀ {h h' : Heap} {a : Addr} {L : List (Value × κ)}, Sx h a L → (∀ o, h.get? a = some o → h'.get? a = some o) → (∀ p ∈ L, isE h' p.1 p.2) → Sx h' a L
  new : ∀ {h : Heap} {a : Addr}, h.get? a = some (setObj0 w) → Sx h a []
  add : ∀ {A : Around} {E : Value → Shared → Prop} {s : Shared} {a : Addr} {L : List (Value × κ)} {v : Value} {k : κ} {Q : Bool → Shared → Prop}, Sx s.heap a L → isE s.heap v k → L.length + 1 < 64 → A.units < cLine →
    (∀ b h' tk L', Heap.SameBut a s.heap h' → Sx h' a L' → (k ∈ L.map (·.2) → L' = L) → (k ∉ L.map (·.2) → L'.Perm ((v, k) :: L)) → Q b { s with heap := h', toks := tk }) → wpAny (model P w) A (setAdd a v) Q E s
  out : ∀ {h : Heap} {a : Addr} {L : List (Value × κ)}, Sx h a L → ∃ es ep t, SetAt h a es ep t ∧ t.fits es.size = true ∧ es.size < scanBound ∧ Ris t.place.toList ∧ (w.params.followText "set-order" = true ∨ t.led = true) ∧ es.toList.map (·.2) = L.map (·.1)
  nodup : ∀ {h : Heap} {a : Addr} {L : List (Value × κ)}, Sx h a L → (L.map (·.2)).Nodup
  elem : ∀ {h : Heap} {a : Addr} {L : List (Value × κ)}, Sx h a L → ∀ p ∈ L, isE h p.1 p.2
/-- few kinds -/
theorem few_of {κ : Type} {ks : List κ} (h : ks.length < 63) : ∀ L : List κ, L.Nodup → (∀ k ∈ L, k ∈ ks) → L.length < 63 := fun L n hs => by
  classical
  have := List.Nodup.length_le_of_subset n hs
  omega
/-- what is in behind i items -/
structure GotK {κ : Type} (ks : List (Value × κ)) (i : Nat) (L : List (Value × κ)) : Prop where
  sub : ∀ p ∈ L, p ∈ ks.take i
  all : ∀ p ∈ ks.take i, p.2 ∈ L.map (·.2)
  len : L.length ≤ i
section
variable {κ : Type} {isE : Heap → Value → κ → Prop} {Sx : Heap → Addr → List (Value × κ) → Prop} {P : Program} {w : World} {A : Around} {E : Value → Shared → Prop} {s : Shared}
theorem GotK.step {ks L L' : List (Value × κ)} {i : Nat} {p : Value × κ} (g : GotK ks i L) (h : ks[i]? = some p) (c1 : p.2 ∈ L.map (·.2) → L' = L) (c2 : p.2 ∉ L.map (·.2) → L'.Perm (p :: L)) : GotK ks (i + 1) L' := by
  have ht : ks.take (i + 1) = ks.take i ++ [p] := by rw [List.take_succ, h] <;> rfl
  rcases Classical.em (p.2 ∈ L.map (·.2)) with c | c
  · rw [c1 c]
    refine ⟨fun q hq => ?_, fun q hq => ?_, Nat.le_succ_of_le g.len⟩
    · rw [ht]
      exact List.mem_append_left _ (g.sub q hq)
    · rw [ht, List.mem_append] at hq
      rcases hq with hq | hq
      · exact g.all q hq
      · rw [List.mem_singleton.mp hq]
        exact c
  · have pm := c2 c
    refine ⟨fun q hq => ?_, fun q hq => ?_, by rw [pm.length_eq, List.length_cons]; exact Nat.succ_le_succ g.len⟩
    · rw [ht]
      rcases List.mem_cons.mp (pm.mem_iff.mp hq) with e | hq
      · rw [e]
        exact List.mem_append_right _ (List.mem_singleton.mpr rfl)
      · exact List.mem_append_left _ (g.sub q hq)
    · rw [(pm.map (·.2)).mem_iff, List.map_cons]
      rw [ht, List.mem_append] at hq
      rcases hq with hq | hq
      · exact List.mem_cons_of_mem _ (g.all q hq)
      · rw [List.mem_singleton.mp hq]
        exact List.mem_cons_self
/-- the loop of set.update -/
theorem setW_loop (W : SetW P w isE Sx) {R : Result → Shared → Prop} {I S l : Addr} {items : Array Value} {ks : List (Value × κ)} (hks : items.toList = ks.map (·.1)) (hfew : ∀ L : List κ, L.Nodup → (∀ k ∈ L, k ∈ ks.map (·.2)) → L.length < 63) (hh : A.in1.handled = none) (hu : A.in1.units < cLine) (h0 : Heap)
    (hlI : l ≠ I) (hSI : S ≠ I) (hSl : S ≠ l) (hS0 : h0.get? S = none) (hI0 : h0.get? I = none) (hE : ∀ p ∈ ks, isE h0 p.1 p.2) :
    ∀ (n i : Nat) (s : Shared) (L : List (Value × κ)), items.size - i = n → i ≤ items.size → (s.heap.IsListIter I l i ∧ s.heap.IsList l items) → Sx s.heap S L → GotK ks i L → (∀ b o, h0.get? b = some o → s.heap.get? b = some o) →
      (∀ h' tk L', (∀ b o, h0.get? b = some o → h'.get? b = some o) → Sx h' S L' → GotK ks items.size L' → R (.ok (.ret .none)) { s with heap := h', toks := tk }) →
      codeAny (model P w) A (.builtin "set.update.loop" ⟨[.ref S, .ref I], []⟩) R s := by
  have V := Walks.list (prog := P) (w := w) (A := A.in1) hh I l hlI items
  have hsz : items.size = ks.length := by rw [← Array.length_toList, hks, List.length_map]
  intro n
  induction n with
  | zero =>
    intro i s L hn hi hst hS g hk hR
    have hin : i = items.size := by omega
    refine codeAny_builtin F.entry_set_update_loop ?_
    rw [Around.under_plainId F.plain_set_update_loop _]
    show wpAny _ A.in1 (pyNext (.ref I) >>= _) _ _ s
    refine wpAny_bind (V.done s _ _ (hin ▸ hst) fun h' tk hk' => ?_)
    show wpAny _ A.in1 (ret Value.none) _ _ _
    have kp : ∀ b o, h0.get? b = some o → h'.get? b = some o := fun b o e => hk' b o (fun z => by
      rw [List.mem_singleton.mp z, hI0] at e
      cases e) (hk b o e)
    have S' : Sx h' S L := W.keepS hS (fun o e => hk' S o (by simp [hSI]) e) fun p hp => W.keepE (hE p (List.mem_of_mem_take (g.sub p hp))) kp
    exact wpAny_pure (hR h' tk L kp S' (hin ▸ g))
  | succ n ih =>
    intro i s L hn hi hst hS g hk hR
    have hlt : i < items.size := by omega
    refine codeAny_builtin F.entry_set_update_loop ?_
    rw [Around.under_plainId F.plain_set_update_loop _]
    show wpAny _ A.in1 (pyNext (.ref I) >>= _) _ _ s
    refine wpAny_bind (V.item i s _ _ hlt hst fun v h' tk hP hst' hk' => ?_)
    obtain ⟨p, hp, rfl⟩ : ∃ p, ks[i]? = some p ∧ v = p.1 := by
      have q : items.toList[i]? = some v := by rw [Array.getElem?_toList]; exact hP
      rw [hks, List.getElem?_map] at q
      cases hq : ks[i]? with
      | none => rw [hq] at q; cases q
      | some p => rw [hq] at q; exact ⟨p, rfl, (Option.some.inj q).symm⟩
    have kp : ∀ b o, h0.get? b = some o → h'.get? b = some o := fun b o e => hk' b o (fun z => by
      rw [List.mem_singleton.mp z, hI0] at e
      cases e) (hk b o e)
    have S' : Sx h' S L := W.keepS hS (fun o e => hk' S o (by simp [hSI]) e) fun q hq => W.keepE (hE q (List.mem_of_mem_take (g.sub q hq))) kp
    have hx : isE h' p.1 p.2 := W.keepE (hE p (List.mem_of_getElem? hp)) kp
    show wpAny _ A.in1 (holding [p.1] (setAdd S p.1) >>= _) _ _ _
    refine wpAny_bind (wpAny_holding ?_)
    refine W.add (s := { s with heap := h', toks := tk }) S' hx (by
      have := hfew (L.map (·.2)) (W.nodup S') fun k hk => by
        obtain ⟨q, hq, rfl⟩ := List.mem_map.mp hk
        exact List.mem_map_of_mem (List.mem_of_mem_take (g.sub q hq))
      rw [List.length_map] at this
      omega) hu fun b h2 tk2 L2 hsb hS2 c1 c2 => ?_
    have kp2 : ∀ b o, h0.get? b = some o → h2.get? b = some o := fun b o e => (hsb.2 b (fun z => by rw [z, hS0] at e; cases e)).trans (kp b o e)
    refine wpAny_pure ⟨plainId_quiet F.plain_set_update_loop _, ih (i + 1) _ L2 (by omega) hlt ⟨hst'.1.at fun o e => (hsb.2 I (fun z => hSI z.symm)).trans e, hst'.2.at fun o e => (hsb.2 l (fun z => hSl z.symm)).trans e⟩ hS2 (g.step hp c1 c2) kp2 fun h3 tk3 L3 k3 s3 g3 => ?_⟩
    exact hR h3 tk3 L3 k3 s3 g3
/-- set(xs) of a list -/
theorem call_setW (W : SetW P w isE Sx) {l : Addr} {items : Array Value} {ks : List (Value × κ)} {Q : Value → Shared → Prop} (hh : A.handled = none) (hl : s.heap.IsList l items) (hks : items.toList = ks.map (·.1)) (hE : ∀ p ∈ ks, isE s.heap p.1 p.2) (hfew : ∀ L : List κ, L.Nodup → (∀ k ∈ L, k ∈ ks.map (·.2)) → L.length < 63) (hu : A.units + 3 < cLine)
    (h : ∀ (h' : Heap) (tk : Nat) L, Sx h' s.heap.objs.size L → GotK ks ks.length L → (∀ b o, s.heap.get? b = some o → h'.get? b = some o) → Q (.ref s.heap.objs.size) { s with heap := h', toks := tk }) :
    wpAny (model P w) A (call (.type "set") [.ref l]) Q E s := by
  have hisz : items.size = ks.length := by rw [← Array.length_toList, hks, List.length_map]
  obtain ⟨c, tl, hmro⟩ := F.called_set.mro
  have hmade := F.called_set.made
  have hsub := F.called_set.sub
  refine wpAny_call (codeAny_of_tree ?_)
  show wpAny _ _ (callAny (.type "set") _) _ _ _
  refine wpAny_pure ⟨Code.quiet_builtin _ (by decide +kernel), codeAny_builtin F.entry_type_call ?_⟩
  rw [Around.under_plain (weight_type_call_type "set" [.ref l] []) rfl]
  have h1 := F.called_set.notType
  have h2 := F.called_set.canCreate
  have hct := F.typeCall_set_1 (.ref l)
  repeat (any_goals (first | assumption | wp_step))
  refine codeAny_mono (code_set_led1 (.ref l) (E := E) (Q₁ := fun obj s₁ => obj = .ref s.heap.objs.size ∧ s₁ = { s with heap := s.heap.push (setObj0 w) }) ⟨rfl, rfl⟩) fun r s₁ hr => ?_
  cases r with
  | error e => exact hr
  | ok fl =>
    cases fl with
    | ret obj =>
      obtain ⟨rfl, rfl⟩ := hr
      have hS : (s.heap.push (setObj0 w)).get? s.heap.objs.size = some (setObj0 w) := Heap.get?_push_size _ rfl
      have hT : Shared.TypeIs { s with heap := s.heap.push (setObj0 w) } (.ref s.heap.objs.size) "set" := ⟨_, hS, rfl⟩
      have hli := F.called_set.init.lookup
      have hbi := F.called_set.init.bind (.ref s.heap.objs.size)
      repeat (any_goals (first | assumption | wp_step))
      refine codeAny_mono (codeAny_call_builtin (R := wants (fun r s₂ => r = .none ∧ ∃ h' tk L, s₂ = { s with heap := h', toks := tk } ∧ Sx h' s.heap.objs.size L ∧ GotK ks ks.length L ∧
          (∀ b o, s.heap.get? b = some o → h'.get? b = some o)) E) F.called_set.init.plain F.entry_set_init (check_set_init_1 hT ?_)) fun r₂ s₂ hr₂ => ?_
      · obtain ⟨ol, hol, hcl, nl, hdl⟩ := hl
        obtain ⟨ocls, odict, odata, oslots⟩ := ol
        simp only at hcl hdl
        subst hcl; subst hdl
        have hol' : (s.heap.push (setObj0 w)).get? l = some { cls := .type "list", dict := odict, data := .seq items nl, slots := oslots } := Heap.get?_push_of_some _ hol
        have hsls := F.sub_list_set
        have hslf := F.sub_list_frozenset
        have hne : (Value.type "list" == Value.type "dict") = false := by decide
        have hl1 : (s.heap.push (setObj0 w)).IsList l items := ⟨_, hol', rfl, nl, rfl⟩
        unfold Builtin.«set.__init__» noKeywords Builtin.Frozenset.updateFrom
        generalize hPI : pyIter = PI
        wp_walk
        subst hPI
        refine wpAny_pyIter_list hl1 ?_
        refine wpAny_bind (wpAny_runValue ?_)
        have hlS : l < s.heap.objs.size := Heap.lt_size hol
        have hz1 : (s.heap.push (setObj0 w)).objs.size = s.heap.objs.size + 1 := Heap.size_push ..
        have none_of : ∀ b, s.heap.objs.size ≤ b → s.heap.get? b = none := fun b hb => by
          cases q : s.heap.get? b with
          | none => rfl
          | some o => exact absurd (Nat.lt_of_lt_of_le (Heap.lt_size q) hb) (Nat.lt_irrefl _)
        refine setW_loop W (I := (s.heap.push (setObj0 w)).objs.size) (S := s.heap.objs.size) (l := l) (items := items) (ks := ks) hks hfew (by simp [hh]) hu s.heap (by rw [hz1]; exact Nat.ne_of_lt (Nat.lt_succ_of_lt hlS)) (by rw [hz1]; exact Nat.ne_of_lt (Nat.lt_succ_self _)) (Nat.ne_of_gt hlS)
          (none_of _ (Nat.le_refl _)) (none_of _ (by rw [hz1]; exact Nat.le_succ _)) hE (items.size - 0) 0 _ [] (by omega) (Nat.zero_le _)
          ⟨⟨_, Heap.get?_push_size _ rfl, rfl, rfl⟩, (hl1.push _)⟩ (W.new (Heap.get?_push_of_some _ hS)) ⟨fun p hp => (by cases hp), fun p hp => (by simp at hp), Nat.le_refl _⟩ (fun b o e => Heap.get?_push_of_some _ (Heap.get?_push_of_some _ e)) ?hR
        case hR =>
          intro h' tk L' kp hS' g'
          show wpAny _ _ _ _ _ _
          refine wpAny_pure ?_
          show wpAny _ _ (ret Value.none) _ _ _
          rw [hisz] at g'
          exact wpAny_pure ⟨rfl, h', tk, L', rfl, hS', g', kp⟩
      · cases r₂ with
        | error e => exact hr₂
        | ok fl₂ =>
          cases fl₂ with
          | ret r =>
            obtain ⟨rfl, h', tk, L, rfl, hS', g', hk'⟩ := hr₂
            repeat (any_goals (first | assumption | wp_step))
            exact h _ _ _ hS' g' hk'
          | _ => exact hr₂.elim
    | _ => exact hr.elim
end
end Qt
/-! Qt2: tuples sorted whatever their lengths; sorted(a set). -/
namespace Qt
open PySem PySem.Spec PyProof.Rows L2
open PySem.W PySem.SeqAt
section
variable {P : Program} {w : World} {A : Around} {E : Value → Shared → Prop} {s : Shared}
/-- a tuple's own __lt__, called by name -/
theorem call_tup_lt {l b : Addr} {items items2 : Array Value} {e r : Nat → Bool} {Q : Value → Shared → Prop} (hl : s.heap.IsTuple l items) (hb : s.heap.IsTuple b items2)
    (he : ∀ j (h1 : j < items.size) (h2 : j < items2.size), EqAt A.in1 s items[j] items2[j] (e j)) (hr : ∀ j (h1 : j < items.size) (h2 : j < items2.size), e j = false → RcLt A.in1 s items[j] items2[j] (r j))
    (h : Q (.bool (firstLt e r (decide (items.size < items2.size)) (List.range (min items.size items2.size)))) s) : wpAny (model P w) A (call (.builtin "tuple.__lt__") [.ref l, .ref b]) Q E s := by
  obtain ⟨⟨c, dd, dt, sl⟩, ho, hc, n, hd⟩ := hl
  obtain ⟨⟨c2, dd2, dt2, sl2⟩, ho2, hc2, n2, hd2⟩ := hb
  simp only at hc hd hc2 hd2
  subst hc; subst hd; subst hc2; subst hd2
  exact call_meets F.slot_tuple_lt ⟨_, ho, rfl⟩ F.entry_tuple_lt (F.args_tuple_lt_2 _ _) (tuple_ltAt l b items items2 n n2 dd dd2 sl sl2 e r) ⟨ho, ho2, he, hr, h⟩
theorem oneLt_tups {f : Bool} {xs ys : List PyData} {a b : Value} {as bs : List Addr} {Q : Bool → Shared → Prop} (ra : Reads s.heap a (.tuple xs) as) (rb : Reads s.heap b (.tuple ys) bs) (h : alike (.tuple xs) (.tuple ys) = true)
    (hu : A.units + min (PyData.tuple xs).depth (PyData.tuple ys).depth < cLine) (hq : Q (dataLt (.tuple xs) (.tuple ys)) s) : wpAny (model P w) A (oneLt' f a b) Q E s := by
  cases f with
  | false => exact oneLt_alike (fun z => by cases z) ra rb h (fun z => by cases z) hu hq
  | true =>
    have hal : alikeAll xs ys = true := by simpa [alike] using h
    cases ra with
    | @tuple l o vs n _ as₁ h1 h2 h3 h4 =>
      cases rb with
      | @tuple l' o' vs' n' _ bs₁ k1 k2 k3 k4 =>
        have n1 : vs.size = xs.length := by simpa using SeqAt.ReadsAll.length _ _ _ h4
        have n2 : vs'.size = ys.length := by simpa using SeqAt.ReadsAll.length _ _ _ k4
        rw [dataLt_tuple, ← firstLt_toks xs ys hal, ← n1, ← n2] at hq
        rw [oneLt'_eq]
        simp only [if_true]
        refine wpAny_bind (wpAny_cRoomFor (SeqAt.room_here hu) ?_)
        refine wpAny_bind (wpAny_callSpecialIfBound?_slot (T := "tuple") ⟨_, h1, h2⟩ F.slot_tuple_lt (call_tup_lt (e := pairEq xs ys) (r := fun j => dataLt (xs.getD j .none) (ys.getD j .none)) ⟨_, h1, h2, _, h3⟩ ⟨_, k1, k2, _, k3⟩ (fun j j1 j2 => ?_) (fun j j1 j2 hj => ?_) ?_))
        · have := eqAt_alikeAll xs ys A.in1 s vs.toList vs'.toList _ _ h4 k4 hal (SeqAt.room_in hu) j (by simpa using j1) (by simpa using j2)
          simpa using this
        · have := rcLt_alikeAll xs ys A.in1 s vs.toList vs'.toList _ _ h4 k4 hal (SeqAt.room_in hu) j (by simpa using j1) (by simpa using j2) hj
          simpa using this
        · exact wpAny_truthy_bool hq
/-- the kind of keys that tuples make, one of them empty or not -/
theorem tups_kind {vs : List Value} (ht : ∀ v ∈ vs, ∃ a o xs n, v = .ref a ∧ s.heap.get? a = some o ∧ o.cls = .type "tuple" ∧ o.data = .seq xs n) (hne : ∃ v ∈ vs, ∀ a o xs n, v = .ref a → s.heap.get? a = some o → o.data = .seq xs n → xs.size = 0) :
    ∃ kd, (kd = general' ∨ kd = oneType') ∧ ∀ {M : Model} {A : Around} (E : Value → Shared → Prop) {Q : SortKind → Shared → Prop}, Q kd s → wpAny M A (keyKind' vs.toArray) Q E s := by
  let fst : Value → Option Value := fun v => match v with
    | .ref a => (match s.heap.get? a with
      | some o => (match o.data with
        | .seq xs _ => xs[0]?
        | _ => none)
      | none => none)
    | _ => none
  have mapM_of : ∀ {M : Model} {A : Around} {E : Value → Shared → Prop} {β : Type} (f : Value → Sem β) (g : Value → β) (l : List Value) (Q' : List β → Shared → Prop), (∀ v ∈ l, ∀ Q'' : β → Shared → Prop, Q'' (g v) s → wpAny M A (f v) Q'' E s) → Q' (l.map g) s → wpAny M A (l.mapM f) Q' E s := by
    intro M A E β f g l
    induction l with
    | nil => intro Q' _ h; rw [List.mapM_nil]; exact wpAny_pure h
    | cons x l ih =>
      intro Q' hf h
      rw [List.mapM_cons]
      exact wpAny_bind (hf x List.mem_cons_self _ (wpAny_bind (ih (fun bs s' => wpAny M A (pure (g x :: bs)) Q' E s') (fun v hv => hf v (List.mem_cons_of_mem _ hv)) (wpAny_pure h))))
  have ty : ∀ {M : Model} {A : Around} {E : Value → Shared → Prop}, ∀ v ∈ vs, ∀ Q'' : Value → Shared → Prop, Q'' (.type "tuple") s → wpAny M A (typeOf v) Q'' E s := fun {M A E} v hv Q'' q => by
    obtain ⟨a, o, xs, n, rfl, ho, hc, hd⟩ := ht v hv
    refine Looks.here (show Looks M s.heap (typeOf (.ref a)) o.cls from (Looks.ld ho).andThen .now) ?_
    rw [hc]
    exact q
  have firsts : ∀ {M : Model} {A : Around} {E : Value → Shared → Prop}, ∀ v ∈ vs, ∀ Q'' : Option Value → Shared → Prop, Q'' (fst v) s → wpAny M A (firstOfTuple' v) Q'' E s := fun {M A E} v hv Q'' q => by
    obtain ⟨a, o, xs, n, rfl, ho, hc, hd⟩ := ht v hv
    rw [kas_first_eq]
    refine wpAny_bind (ty _ hv _ ?_)
    rw [if_neg (by first | decide | simp)]
    refine wpAny_bind (listItems_at ho hd (wpAny_pure ?_))
    have e : fst (.ref a) = xs[0]? := by
      show (match s.heap.get? a with
        | some o => (match o.data with
          | .seq xs _ => xs[0]?
          | _ => none)
        | none => none) = _
      rw [ho]
      dsimp only
      rw [hd]
    rw [← e]
    exact q
  have hall : ((vs.map fst).toArray.all fun x => x.isSome) = false := by
    obtain ⟨v, hv, hz⟩ := hne
    obtain ⟨a, o, xs, n, rfl, ho, hc, hd⟩ := ht v hv
    have e0 := hz a o xs n rfl ho hd
    have e : fst (.ref a) = none := by
      show (match s.heap.get? a with
        | some o => (match o.data with
          | .seq xs _ => xs[0]?
          | _ => none)
        | none => none) = _
      rw [ho]
      dsimp only
      rw [hd]
      exact Array.getElem?_eq_none (by omega)
    rw [List.all_toArray, List.all_eq_false]
    exact ⟨none, by rw [← e]; exact List.mem_map_of_mem hv, by simp⟩
  refine ⟨if (((vs.map fst).toArray)[0]?.bind id).isSome = true then general' else oneType', by split <;> simp, fun {M A} E {Q} q => ?_⟩
  rw [kat_kind_eq, List.mapM_toArray, map_eq_pure_bind]
  refine wpAny_bind (wpAny_bind (mapM_of _ fst vs _ firsts (wpAny_pure ?_)))
  rw [if_neg (by rw [hall]; decide)]
  by_cases hf : (((vs.map fst).toArray)[0]?.bind id).isSome = true
  · rw [if_pos hf] at q ⊢
    exact wpAny_pure q
  · rw [if_neg hf] at q ⊢
    rw [oneTypeOnly'_eq, List.mapM_toArray, map_eq_pure_bind]
    refine wpAny_bind (wpAny_bind (wpAny_bind (mapM_of _ (fun _ => Value.type "tuple") vs _ ty (wpAny_pure ?_))))
    obtain ⟨v0, hv0, _⟩ := hne
    obtain ⟨v1, vr, rfl⟩ : ∃ v1 vr, vs = v1 :: vr := List.exists_cons_of_ne_nil (List.ne_nil_of_mem hv0)
    have h0 : ((v1 :: vr).map fun _ => Value.type "tuple").toArray[0]? = some (.type "tuple") := by simp
    rw [h0]
    have hall2 : (((v1 :: vr).map fun _ => Value.type "tuple").toArray.all fun x => x == Value.type "tuple") = true := by
      simp only [List.all_toArray, List.all_map, List.all_eq_true]
      intro _ _
      exact beq_self_eq_true _
    dsimp only
    rw [if_pos hall2]
    exact wpAny_pure (wpAny_pure q)
theorem each_right {α β : Type} {R : α → β → Prop} : ∀ {as : List α} {bs : List β}, EachIs R as bs → ∀ b ∈ bs, ∃ a ∈ as, R a b
  | _, _, .nil, _, h => by cases h
  | _, _, .cons h1 t, b, h => by
    rcases List.mem_cons.mp h with rfl | h
    · exact ⟨_, List.mem_cons_self, h1⟩
    · obtain ⟨a, ha, r⟩ := each_right t b h
      exact ⟨a, List.mem_cons_of_mem _ ha, r⟩
/-- tuples of alike data can be sorted, whatever their lengths -/
theorem sortsAt_tups {vs : List Value} {ds : List PyData} (e : EachIs (fun v d => ∃ as, Reads s.heap v d as) vs ds) (hal : AllAlike ds) (ht : ∀ d ∈ ds, ∃ xs, d = .tuple xs) (hu : ∀ d, d ∈ ds → A.units + d.depth < cLine) : SortsAt P w A s (dataKind s.heap ds) vs := by
  by_cases hk : ∀ d ∈ ds, ∃ x r, d = PyData.tuple (x :: r)
  · exact SortsAt.data e hal (.inl hk) hu
  · have room : ∀ {d d' : PyData}, d ∈ ds → A.units + min d.depth d'.depth < cLine := fun {d d'} hd => Nat.lt_of_le_of_lt (Nat.add_le_add_left (Nat.min_le_left _ _) _) (hu d hd)
    have lt : ∀ f : Bool, ∀ (E : Value → Shared → Prop) (x y : Value) (a b : (dataKind s.heap ds).α) {Q : Bool → Shared → Prop}, (dataKind s.heap ds).keyOf x = some a → (dataKind s.heap ds).keyOf y = some b → Q ((dataKind s.heap ds).blt a b) s → wpAny (model P w) A (oneLt' f x y) Q E s := by
      intro f E x y a b Q ha hb hq
      obtain ⟨d, as, hd, ra, rfl⟩ := dataKind_inv ha
      obtain ⟨d', as', hd', rb, rfl⟩ := dataKind_inv hb
      obtain ⟨xs, rfl⟩ := ht d hd
      obtain ⟨ys, rfl⟩ := ht d' hd'
      exact oneLt_tups ra rb (hal _ hd _ hd') (room hd) hq
    refine ⟨fun v hv => ?_, ?_⟩
    · obtain ⟨d, hd, as, r⟩ := e.left v hv
      exact ⟨_, dataKind_some hal hd r⟩
    · have h1 : ∀ v ∈ vs, ∃ a o xs n, v = .ref a ∧ s.heap.get? a = some o ∧ o.cls = .type "tuple" ∧ o.data = .seq xs n := fun v hv => by
        obtain ⟨d, hd, as, r⟩ := e.left v hv
        obtain ⟨xs, rfl⟩ := ht d hd
        cases r with
        | @tuple l o vs n _ as₁ h1 h2 h3 h4 => exact ⟨l, o, vs, n, rfl, h1, h2, h3⟩
      have h2 : ∃ v ∈ vs, ∀ a o xs n, v = .ref a → s.heap.get? a = some o → o.data = .seq xs n → xs.size = 0 := by
        obtain ⟨d, hd, hx⟩ : ∃ d ∈ ds, ¬ ∃ x r, d = PyData.tuple (x :: r) := by
          apply Classical.byContradiction
          intro hc
          refine hk fun d hd => ?_
          apply Classical.byContradiction
          intro hx
          exact hc ⟨d, hd, hx⟩
        obtain ⟨xs, rfl⟩ := ht d hd
        have hxs : xs = [] := by
          cases xs with
          | nil => rfl
          | cons x r => exact absurd ⟨x, r, rfl⟩ hx
        subst hxs
        obtain ⟨v, hv, as, r⟩ := each_right e _ hd
        refine ⟨v, hv, fun a o xs n hv' ho hd' => ?_⟩
        cases r with
        | @tuple l o' vs' n' _ as₁ h1 h2 h3 h4 =>
          cases hv'
          rw [h1] at ho
          cases ho
          rw [h3] at hd'
          cases hd'
          have := SeqAt.ReadsAll.length _ _ _ h4
          simpa using this
      obtain ⟨kd, hkd, hK⟩ := tups_kind h1 h2
      refine ⟨kd, ?_, fun _ E {Q} q => hK E q⟩
      rcases hkd with rfl | rfl
      · exact fun E x y a b {Q} ha hb hq => lt false E x y a b ha hb hq
      · exact fun E x y a b {Q} ha hb hq => lt true E x y a b ha hb hq
end
section
variable {κ : Type} {isE : Heap → Value → κ → Prop} {Sx : Heap → Addr → List (Value × κ) → Prop} {P : Program} {w : World} {A : Around} {E : Value → Shared → Prop} {s : Shared}
theorem each_pairs {h : Heap} : ∀ (L : List (Value × κ)), (∀ p ∈ L, isE h p.1 p.2) → EachIs (isE h) (L.map (·.1)) (L.map (·.2))
  | [], _ => .nil
  | p :: L, h => .cons (h p List.mem_cons_self) (each_pairs L fun q hq => h q (List.mem_cons_of_mem _ hq))
theorem each_imp {α β : Type} {R R' : α → β → Prop} (h : ∀ a b, R a b → R' a b) : ∀ {as : List α} {bs : List β}, EachIs R as bs → EachIs R' as bs
  | _, _, .nil => .nil
  | _, _, .cons h1 t => .cons (h _ _ h1) (each_imp h t)
/-- sorted(set) -/
theorem sortedW (W : SetW P w isE Sx) {a : Addr} {L : List (Value × κ)} (enc : κ → PyData) {Q : Value → Shared → Prop} (hR : ∀ h v k, isE h v k → ∃ as, Reads h v (enc k) as) (hS : Sx s.heap a L) (hh : A.handled = none) (hfew : L.length < 64)
    (hal : ∀ k ∈ L.map (·.2), ∀ k' ∈ L.map (·.2), alike (enc k) (enc k') = true) (hu : ∀ k ∈ L.map (·.2), A.units + 3 + (enc k).depth < cLine)
    (hs : ∀ (A' : Around) (s' : Shared) (vs : List Value) (ks : List κ), ks.Perm (L.map (·.2)) → EachIs (fun v d => ∃ as, Reads s'.heap v d as) vs (ks.map enc) → AllAlike (ks.map enc) → (∀ d ∈ ks.map enc, A'.units + d.depth < cLine) → SortsAt P w A' s' (dataKind s'.heap (ks.map enc)) vs)
    (hQ : ∀ (s' : Shared) (p : Addr) (out : List Value) (c : Nat) (ks : List κ), (∀ b o, s.heap.get? b = some o → s'.heap.get? b = some o) → s'.gens = s.gens → s'.os = s.os → s.heap.objs.size ≤ p → s'.heap.get? p = some (seqObj "list" out.toArray c) →
      EachIs (isE s'.heap) out (ks.mergeSort (dataLe false enc)) → ks.Perm (L.map (·.2)) → Q (.ref p) s') :
    wpAny (model P w) A (call (.builtin "sorted") [.ref a]) Q E s := by
  obtain ⟨es, ep, t, ha, hf, hb, hr, hl, hes⟩ := W.out hS
  refine Calls.call_function_entry kind_sorted plain_sorted entry_sorted (args_sorted1 _) ?_
  unfold Builtin.«sorted»
  refine wpAny_bind (m := checkCount "sorted" 1 1 _) (wpAny_pure ?_)
  refine wpAny_bind (collect_set (A := A.in1) hh ha hf hb hr hl fun s1 vs k1 hz g1 o1 pm => ?_)
  rw [hes] at pm
  obtain ⟨L1, pL, rfl⟩ := perm_lift (fun p : Value × κ => p.1) pm L rfl
  have hlen : (L1.map (·.1)).length < 64 := by rw [List.length_map, pL.length_eq]; exact hfew
  have hlz : (L1.map (·.1)).length ≤ sizeLine := by rw [sizeLine_eq]; omega
  have pk : (L1.map (·.2)).Perm (L.map (·.2)) := pL.map _
  refine wpAny_bind (wpAny_newList ?_ hlz)
  have hoL : (s1.heap.push (seqObj "list" (L1.map (·.1)).toArray 0)).get? s1.heap.objs.size = some (seqObj "list" (L1.map (·.1)).toArray 0) := Heap.get?_push_size _ rfl
  have elem1 : ∀ p ∈ L1, isE s1.heap p.1 p.2 := fun p hp => W.keepE (W.elem hS p (pL.mem_iff.mp hp)) k1
  have keep2 : ∀ b o, s1.heap.get? b = some o → (sortingHeap (s1.heap.push (seqObj "list" (L1.map (·.1)).toArray 0)) s1.heap.objs.size (L1.map (·.1))).get? b = some o := fun b o e =>
    sortingHeap_old (Nat.ne_of_lt (Heap.lt_size e)) (Heap.get?_push_of_some _ e)
  have e2 : EachIs (isE (sortingHeap (s1.heap.push (seqObj "list" (L1.map (·.1)).toArray 0)) s1.heap.objs.size (L1.map (·.1)))) (L1.map (·.1)) (L1.map (·.2)) := each_pairs L1 fun p hp => W.keepE (elem1 p hp) keep2
  have er := each_imp (hR _) e2
  have al2 : AllAlike ((L1.map (·.2)).map enc) := fun d hd d' hd' => by
    obtain ⟨k, hk, rfl⟩ := List.mem_map.mp hd
    obtain ⟨k', hk', rfl⟩ := List.mem_map.mp hd'
    exact hal k (pk.mem_iff.mp hk) k' (pk.mem_iff.mp hk')
  have S := hs A.in1.in1 { s1 with heap := sortingHeap (s1.heap.push (seqObj "list" (L1.map (·.1)).toArray 0)) s1.heap.objs.size (L1.map (·.1)) } (L1.map (·.1)) (L1.map (·.2)) pk (each_map (R := fun v d => ∃ as, Reads _ v d as) enc er) al2 (fun d hd => by
    obtain ⟨k, hk, rfl⟩ := List.mem_map.mp hd
    have := hu k (pk.mem_iff.mp hk)
    rw [units_in1, units_in1]
    omega)
  have srt := sortVals_data (R := fun v k => ∃ p ∈ L1, v = p.1 ∧ k = p.2) (h' := sortingHeap (s1.heap.push (seqObj "list" (L1.map (·.1)).toArray 0)) s1.heap.objs.size (L1.map (·.1))) (enc := enc) false (each_pairs (isE := fun _ v k => ∃ p ∈ L1, v = p.1 ∧ k = p.2) (h := s1.heap) L1 fun p hp => ⟨p, hp, rfl, rfl⟩) er al2
  refine wpAny_bind (wpAny_holding (wpAny_call_entry slot_list_sort ⟨_, hoL, rfl⟩ entry_list_sort ?body (args_list_sort _)))
  case body =>
    refine list_sort_vals (s := { s1 with heap := s1.heap.push (seqObj "list" (L1.map (·.1)).toArray 0) }) hoL S hlz ?_
    generalize sortVals (dataKind (sortingHeap (s1.heap.push (seqObj "list" (L1.map (·.1)).toArray 0)) s1.heap.objs.size (L1.map (·.1))) ((L1.map (·.2)).map enc)) false (L1.map (·.1)) (L1.map (·.1)) = out at srt ⊢
    refine ⟨_, rfl, ?_⟩
    obtain ⟨c, hc⟩ := sortedHeap_at (vs := L1.map (·.1)) (out := out.toArray) hoL
    have keep3 : ∀ b o, s1.heap.get? b = some o → (sortedHeap (s1.heap.push (seqObj "list" (L1.map (·.1)).toArray 0)) s1.heap.objs.size (L1.map (·.1)) out.toArray).get? b = some o := fun b o e => by
      have hlt := Heap.lt_size e
      rw [sortedHeap_old (Nat.ne_of_lt hlt) (by rw [size_push']; exact Nat.lt_succ_of_lt hlt)]
      exact Heap.get?_push_of_some _ e
    refine wpAny_pure ⟨_, rfl, hQ _ s1.heap.objs.size out c (L1.map (·.2)) (fun b o e => keep3 b o (k1 b o e)) g1 o1 hz hc ?_ pk⟩
    refine each_imp (fun v k hv => ?_) srt
    obtain ⟨p, hp, rfl, rfl⟩ := hv
    exact W.keepE (elem1 p hp) keep3
end
end Qt
/-! Qt3: the sets of what is found by scan (texts). -/
namespace Qt
open PySem PySem.Spec PyProof.Rows L2
section
variable {P : Program} {w : World} {κ : Type} [DecidableEq κ] (knd : PySem.KeyKind P w κ)
/-- a set found by scan, its rows told by L -/
def ScanS (h : Heap) (a : Addr) (L : List (Value × κ)) : Prop :=
  ∃ o es ep t, h.get? a = some o ∧ o.ExactSet ∧ o.data = .set es ep t ∧ ElemsOf knd es.toList ∧ es.toList.map (·.2) = L.map (·.1) ∧ (∀ p ∈ L, knd.is p.2 p.1 = true) ∧ (L.map (·.2)).Nodup ∧
    es.size < scanBound ∧ t.fits es.size = true ∧ Ris t.place.toList ∧ (w.params.followText "set-order" = true ∨ t.led = true)
variable {knd} {A : Around} {E : Value → Shared → Prop} {s : Shared} {a : Addr} {L : List (Value × κ)}
theorem scan_tail {g : Bool → Sem Unit} (hg : ∀ (b : Bool) (s₁ : Shared) (Q' : Unit → Shared → Prop), Q' () s₁ → wpAny (model P w) A (g b) Q' E s₁)
    {o : Obj} {es : Array (Int × Value)} {ep : Nat} {t : SetTable} (ho : s.heap.get? a = some o) (hex : o.ExactSet) (hd : o.data = .set es ep t)
    {es1 : Array (Int × Value)} {t2 : SetTable} (g1 : ElemsOf knd es1.toList) (m1 : es1.toList.map (·.2) = L.map (·.1)) (k1 : ∀ p ∈ L, knd.is p.2 p.1 = true) (nd1 : (L.map (·.2)).Nodup)
    (hb1 : es1.size < scanBound) (hf2 : t2.fits es1.size = true) (hr : Ris t2.place.toList) (hl : w.params.followText "set-order" = true ∨ t2.led = true) {wasDummy : Bool} {R : Option Bool → Shared → Prop}
    (hR : ∀ h' L', Heap.SameBut a s.heap h' → ScanS knd h' a L' → L'.Perm L → R (some true) { s with heap := h' }) :
    wpAny (model P w) A (do
        storeSet a es1 t2
        if (!wasDummy && t2.tooFull) = true then do
            g (relayAll t2 es1 (SetTable.grown es1.size)).2.2
            storeSet a (relayAll t2 es1 (SetTable.grown es1.size)).1 (relayAll t2 es1 (SetTable.grown es1.size)).2.1
            pure (some true)
          else pure (some true)) R E s := by
  refine wpAny_bind (wpAny_storeSet_of ho hd ?_ (fits_of_scanBound hb1))
  have ho1 := store_at (es' := es1) (t' := t2) ho hd
  have sb1 := Heap.SameBut.update s.heap a (Obj.putSet es1 t2)
  split
  · have pm := relayAll_perm t2 es1 (SetTable.grown es1.size)
    have hf3 := relayAll_fits t2 es1 (SetTable.grown es1.size)
    have hr3 := relayAll_ris t2 es1 (SetTable.grown es1.size)
    have hl3 := relayAll_led t2 es1 (SetTable.grown es1.size)
    generalize relayAll t2 es1 (SetTable.grown es1.size) = Z at pm hf3 hr3 hl3 ⊢
    obtain ⟨es2, t3, gave⟩ := Z
    dsimp only at pm hf3 hr3 hl3 ⊢
    have hsz : es2.size = es1.size := by rw [← Array.length_toList, pm.length_eq, Array.length_toList]
    have hb2 : es2.size < scanBound := by rw [hsz]; exact hb1
    have pm2 := pm.map (·.2)
    rw [m1] at pm2
    obtain ⟨L', pL, eL⟩ := perm_lift (fun p : Value × κ => p.1) pm2 L rfl
    refine wpAny_bind (hg _ _ _ ?_)
    refine wpAny_bind (wpAny_storeSet_of ho1 rfl ?_ (fits_of_scanBound hb2))
    have ho2 := store_at (es' := es2) (t' := t3) ho1 rfl
    refine wpAny_pure (hR _ L' (sb1.trans (Heap.SameBut.update _ a _)) ?_ pL)
    exact ⟨_, es2, _, t3, ho2, hex, rfl, g1.perm pm, eL.symm, fun p hp => k1 p (pL.mem_iff.mp hp), (pL.map (·.2)).nodup_iff.mpr nd1, hb2, hf3, hr3, hl.imp id fun z => by rw [hl3]; exact z⟩
  · exact wpAny_pure (hR _ L sb1 ⟨_, es1, _, t2, ho1, hex, rfl, g1, m1, k1, nd1, hb1, hf2, hr, hl⟩ (List.Perm.refl _))
theorem scan_has {es : Array (Int × Value)} (m1 : es.toList.map (·.2) = L.map (·.1)) (k1 : ∀ p ∈ L, knd.is p.2 p.1 = true) (k : κ) : k ∈ L.map (·.2) ↔ ∃ e ∈ es.toList, knd.is k e.2 = true := by
  constructor
  · intro hk
    obtain ⟨p, hp, rfl⟩ := List.mem_map.mp hk
    have : p.1 ∈ es.toList.map (·.2) := by rw [m1]; exact List.mem_map_of_mem hp
    obtain ⟨e, he, q⟩ := List.mem_map.mp this
    exact ⟨e, he, by rw [q]; exact k1 p hp⟩
  · rintro ⟨e, he, q⟩
    have : e.2 ∈ L.map (·.1) := by rw [← m1]; exact List.mem_map_of_mem he
    obtain ⟨p, hp, ep⟩ := List.mem_map.mp this
    have h1 := k1 p hp
    rw [ep] at h1
    rw [knd.inj _ _ _ q h1]
    exact List.mem_map_of_mem hp
theorem scan_add {k : κ} {v : Value} {Q : Bool → Shared → Prop} (hS : ScanS knd s.heap a L) (hkey : knd.is k v = true) (hsc : v.scannable = true) (room : L.length + 1 < 64)
    (hQ : ∀ b h' L', Heap.SameBut a s.heap h' → ScanS knd h' a L' → (k ∈ L.map (·.2) → L' = L) → (k ∉ L.map (·.2) → L'.Perm ((v, k) :: L)) → Q b { s with heap := h' }) :
    wpAny (model P w) A (setAddHashed a v (knd.hash k)) Q E s := by
  obtain ⟨o, es, ep, t, ho, hex, hd, hel, hm, hk1, nd, hb, hf, hr, hl⟩ := hS
  unfold setAddHashed setAddHashedIn
  refine wpAny_holding (wpAny_bind (wpAny_setState_of ho hd hf ?_))
  dsimp only
  rw [byScan_of hsc hb hel]
  simp only [↓reduceIte]
  unfold setAddByScan
  refine wpAny_bind ?_
  refine wpAny_bind (wpAny_rule ?_)
  refine wpAny_bind (wpAny_setScan_of hkey ho hd hf hel ?_)
  cases hfi : List.findIdx? (fun e => knd.is k e.2) es.toList with
  | some j =>
    dsimp only
    obtain ⟨hj, pj, _⟩ := List.findIdx?_eq_some_iff_getElem.mp hfi
    have hin : k ∈ L.map (·.2) := (scan_has hm hk1 k).mpr ⟨es.toList[j], List.getElem_mem hj, pj⟩
    refine wpAny_pure (wpAny_pure ?_)
    exact hQ false s.heap L (Heap.SameBut.refl a s.heap) ⟨o, es, ep, t, ho, hex, hd, hel, hm, hk1, nd, hb, hf, hr, hl⟩ (fun _ => rfl) fun z => absurd hin z
  | none =>
    dsimp only
    have hno : k ∉ L.map (·.2) := fun z => by
      obtain ⟨e, he, q⟩ := (scan_has hm hk1 k).mp z
      have c := List.findIdx?_eq_none_iff.mp hfi e he
      rw [q] at c
      cases c
    have hgw : ∀ (b : Bool) {s₁ : Shared} {Q' : Unit → Shared → Prop}, Q' () s₁ → wpAny (model P w) A (match b with | true => rule "set.scan.the-table-gave-way" | false => pure ()) Q' E s₁ :=
      fun b s₁ Q' q => by cases b <;> first | exact wpAny_pure q | exact wpAny_rule q
    have pm := layNew_perm t es (knd.hash k) v
    have hf1 := layNew_fits t es (knd.hash k) v
    have hr1 := layNew_ris t es (knd.hash k) v hr
    have hl1 := layNew_led t es (knd.hash k) v
    generalize layNew t es (knd.hash k) v = Z at pm hf1 hr1 hl1 ⊢
    obtain ⟨es1, t1, wasDummy, gave⟩ := Z
    dsimp only at pm hf1 hr1 hl1 ⊢
    rw [Array.toList_push] at pm
    have hel1 : ElemsOf knd es1.toList := (hel.push hkey hsc).perm pm
    have pc : es1.toList.Perm ((knd.hash k, v) :: es.toList) := pm.trans (List.perm_append_singleton _ _)
    have pv := pc.map (·.2)
    rw [List.map_cons, hm] at pv
    obtain ⟨L', pL, eL⟩ := perm_lift (fun p : Value × κ => p.1) pv ((v, k) :: L) rfl
    have k1' : ∀ p ∈ L', knd.is p.2 p.1 = true := fun p hp => by
      rcases List.mem_cons.mp (pL.mem_iff.mp hp) with e | hp
      · rw [e]; exact hkey
      · exact hk1 p hp
    have nd1 : (L'.map (·.2)).Nodup := (pL.map (·.2)).nodup_iff.mpr (by rw [List.map_cons]; exact List.nodup_cons.mpr ⟨hno, nd⟩)
    have hsz : es1.size = L.length + 1 := by
      have h1 := congrArg List.length eL
      rw [List.length_map, List.length_map, pL.length_eq, List.length_cons, Array.length_toList] at h1
      exact h1.symm
    have hb1 : es1.size < scanBound := by rw [hsz]; unfold scanBound; omega
    have hled : w.params.followText "set-order" = true ∨ t1.led = true := hl.imp id fun z => by rw [hl1]; exact z
    have fin : ∀ h' L2, Heap.SameBut a s.heap h' → ScanS knd h' a L2 → L2.Perm L' → Q true { s with heap := h' } := fun h' L2 sb r p2 => hQ true h' L2 sb r (fun z => absurd z hno) fun _ => p2.trans pL
    refine wpAny_bind (hgw _ ?_)
    split
    · refine wpAny_bind ?_
      rw [hashByValue_scannable 8 hsc]
      refine wpAny_pure ?_
      refine scan_tail ?_ ho hex hd hel1 eL.symm k1' nd1 hb1 ?_ ?_ ?_ ?_
      · intro b s₁ Q' q; cases b <;> first | exact wpAny_pure q | exact wpAny_rule q
      · first | (split <;> first | exact hf1 | exact SetTable.fits_plain_off hf1) | exact hf1
      · first | (split <;> exact hr1) | exact hr1
      · first | (split <;> exact hled) | exact hled
      · intro h' L2 sb r p2; dsimp only; exact wpAny_pure (fin h' L2 sb r p2)
    · refine wpAny_bind (wpAny_pure ?_)
      simp only [↓reduceIte]
      refine scan_tail ?_ ho hex hd hel1 eL.symm k1' nd1 hb1 hf1 hr1 hled ?_
      · intro b s₁ Q' q; cases b <;> first | exact wpAny_pure q | exact wpAny_rule q
      · intro h' L2 sb r p2; dsimp only; exact wpAny_pure (fin h' L2 sb r p2)
end
/-- THE INSTANCE -/
theorem setW_scan {P : Program} {w : World} {κ : Type} [DecidableEq κ] (knd : PySem.KeyKind P w κ) (hsc : ∀ k v, knd.is k v = true → v.scannable = true) : SetW P w (fun _ v k => knd.is k v = true) (ScanS knd) where
  keepE := fun e _ => e
  keepS := fun ⟨o, es, ep, t, ho, r⟩ k _ => ⟨o, es, ep, t, k o ho, r⟩
  new := fun {h a} ho => ⟨_, #[], 0, _, ho, ⟨rfl, rfl, rfl⟩, rfl, fun e he => by simp at he, rfl, fun p hp => (by cases hp), List.nodup_nil, by decide, by rfl, List.Pairwise.nil, by
    show _ ∨ (!w.params.followText "set-order") = true
    cases w.params.followText "set-order"
    · exact .inr rfl
    · exact .inl rfl⟩
  add := fun {A E s a L v k Q} hS hk hfew hu hQ => by
    unfold setAdd
    refine wpAny_holding ?_
    refine wpAny_bind (knd.pyHash hk ?_)
    exact scan_add (s := { s with toks := s.toks + 1 }) hS hk (hsc k v hk) hfew fun b h' L' sb S' c1 c2 => hQ b h' _ L' sb S' c1 c2
  out := fun ⟨o, es, ep, t, ho, hex, hd, hel, hm, hk1, nd, hb, hf, hr, hl⟩ => ⟨es, ep, t, ⟨o, ho, hex.1, hd⟩, hf, hb, hr, hl, hm⟩
  nodup := fun ⟨o, es, ep, t, ho, hex, hd, hel, hm, hk1, nd, r⟩ => nd
  elem := fun ⟨o, es, ep, t, ho, hex, hd, hel, hm, hk1, r⟩ => hk1
end Qt
/-! Qt4: the sets of tuples, found by the table (over the table lemmas of HandS.TupSets; any kind of items that are asked nothing). -/
namespace Qt
open PySem PySem.Spec PyProof.Rows L2
section
variable {P : Program} {w : World} {κ : Type} [DecidableEq κ] (knd : PySem.KeyKind P w κ)
/-- items: of no class statement; their hash is by value or it is not -/
structure ItemK : Prop where
  cls : ∀ n k v, knd.is k v = true → ofAClassStatement n v = pure false
  hbv : ∀ k v, knd.is k v = true → ∃ b, ∀ n, hashByValue n v = pure b
def kh (k : List κ) : Int := tupleKeyHash knd k
/-- v is a tuple of the items k -/
def IsTk (h : Heap) (v : Value) (k : List κ) : Prop := ∃ b, v = .ref b ∧ IsTupleKey knd h k b
def rowK (L : List (Value × List κ)) : List (Int × Value) := L.map fun p => (kh knd p.2, p.1)
structure TabSt (h : Heap) (a : Addr) (L : List (Value × List κ)) (es : Array (Int × Value)) (ep : Nat) (t : SetTable) : Prop where
  ob : ∃ o, h.get? a = some o ∧ o.ExactSet ∧ o.data = .set es ep t
  rows : es.toList = rowK knd L
  tab : TabOk t (L.map fun p => kh knd p.2)
  nd : (L.map (·.2)).Nodup
  tup : ∀ p ∈ L, IsTk knd h p.1 p.2
  led : w.params.followText "set-order" = true ∨ t.led = true
  room : L.length * 5 < t.mask * 3
  few : L.length < 64
variable {knd} {A : Around} {E : Value → Shared → Prop} {s : Shared} {a : Addr} {L : List (Value × List κ)} {es : Array (Int × Value)} {ep : Nat} {t : SetTable}
theorem ask_items {β : Type} {M : Model} (f : Value → Sem Bool) {k : List κ} {vs : List Value} (hi : ItemsAre knd k vs) : ∀ v ∈ vs, ∃ x, knd.is x v = true := by
  induction hi with
  | nil => intro v hv; cases hv
  | @cons x v' ks vs h1 _ ih =>
    intro v hv
    rcases List.mem_cons.mp hv with e | hv
    · exact ⟨x, e ▸ h1⟩
    · exact ih v hv
theorem cls_tup (I : ItemK knd) {k : List κ} {b : Addr} {Q : Bool → Shared → Prop} (hk : IsTupleKey knd s.heap k b) (h : Q false s) : wpAny (model P w) A (ofAClassStatement 8 (.ref b)) Q E s := by
  have hT := hk.typeIs
  obtain ⟨o, items, n, ho, _, hd, hi⟩ := hk
  unfold ofAClassStatement
  refine wpAny_bind (wpAny_typeOf hT ?_)
  dsimp only
  have e : (("tuple" : String) == "tuple") = true := by decide
  simp only [e, if_true, Bool.not_true, Bool.false_eq_true, if_false]
  try refine wpAny_bind (wpAny_pure ?_)
  try simp only [Bool.not_true, Bool.false_eq_true, if_false]
  show wpAny _ _ (seqItems? (.ref b) >>= _) _ _ s
  refine wpAny_bind (wpAny_seqItems ho hd ?_)
  dsimp only
  refine wpAny_bind ?_
  show wpAny _ _ (forIn items _ _) _ _ s
  rw [← Array.forIn_toList]
  refine wpAny_forIn_list _ (fun rest r s' => r.1 = none ∧ s' = s ∧ ∀ v ∈ rest, ∃ x, knd.is x v = true) _ ?_ ?_ _ _ ⟨rfl, rfl, ask_items (β := Bool) (M := model P w) (fun _ => pure false) hi⟩
  · rintro v rest r s' ⟨hr, rfl, hall⟩
    obtain ⟨x, hx⟩ := hall v List.mem_cons_self
    rw [I.cls _ _ _ hx]
    refine wpAny_bind (wpAny_pure ?_)
    simp only [Bool.false_eq_true, if_false]
    exact wpAny_pure ⟨rfl, rfl, fun u hu' => hall u (List.mem_cons_of_mem _ hu')⟩
  · rintro ⟨r1, r2⟩ s' ⟨hr, rfl, _⟩
    simp only at hr
    subst hr
    exact wpAny_pure h
theorem hbv_tup (I : ItemK knd) {k : List κ} {b : Addr} {Q : Bool → Shared → Prop} (hk : IsTupleKey knd s.heap k b) (h : ∀ c, Q c s) : wpAny (model P w) A (hashByValue 8 (.ref b)) Q E s := by
  have hT := hk.typeIs
  obtain ⟨o, items, n, ho, _, hd, hi⟩ := hk
  unfold hashByValue
  refine wpAny_bind (wpAny_specialOf hT F.slot_tuple_hash.lookup ?_)
  show wpAny _ _ (seqItems? (.ref b) >>= _) _ _ s
  refine wpAny_bind (wpAny_seqItems ho hd ?_)
  refine wpAny_bind ?_
  show wpAny _ _ (forIn items _ _) _ _ s
  rw [← Array.forIn_toList]
  refine wpAny_forIn_list _ (fun rest r s' => s' = s ∧ ∀ v ∈ rest, ∃ x, knd.is x v = true) _ ?_ ?_ _ _ ⟨rfl, ask_items (β := Bool) (M := model P w) (fun _ => pure false) hi⟩
  · rintro v rest r s' ⟨rfl, hall⟩
    obtain ⟨x, hx⟩ := hall v List.mem_cons_self
    obtain ⟨c, hc⟩ := I.hbv _ _ hx
    rw [hc]
    refine wpAny_bind (wpAny_pure ?_)
    cases c with
    | false => exact wpAny_pure (show wpAny _ _ (pure false) _ _ _ from wpAny_pure (h false))
    | true => exact wpAny_pure ⟨rfl, fun u hu' => hall u (List.mem_cons_of_mem _ hu')⟩
  · rintro ⟨r1, r2⟩ s' ⟨rfl, _⟩
    cases r1 <;> exact wpAny_pure (h _)
theorem seen_none (I : ItemK knd) {k : List κ} {b : Addr} {Q : Bool → Shared → Prop} (hk : IsTupleKey knd s.heap k b) {ys : List Value} (hy : ∀ y ∈ ys, ∃ k', IsTk knd s.heap y k') (h : Q false s) :
    wpAny (model P w) A (searchCouldBeSeen (.ref b) ys) Q E s := by
  unfold searchCouldBeSeen
  refine wpAny_bind ?_
  refine wpAny_forIn_list _ (fun rest r s' => r.1 = none ∧ s' = s ∧ ∀ y ∈ rest, ∃ k', IsTk knd s.heap y k') _ ?_ ?_ _ _ ⟨rfl, rfl, hy⟩
  · rintro v rest r s' ⟨hr, rfl, hall⟩
    obtain ⟨k', c, rfl, hc⟩ := hall v List.mem_cons_self
    have rest' : ∀ y ∈ rest, ∃ k', IsTk knd s'.heap y k' := fun u hu' => hall u (List.mem_cons_of_mem _ hu')
    dsimp only
    by_cases hv : (b == c || (carriedByValue (.ref b) && carriedByValue (.ref c))) = true
    · refine wp_if_pos hv ?_
      exact wpAny_pure ⟨rfl, rfl, rest'⟩
    · refine wp_if_neg hv ?_
      refine wpAny_bind (wpAny_eqIsQuiet_tuple hk ?_)
      simp only [Bool.not_true, Bool.false_eq_true, if_false]
      refine wpAny_bind (wpAny_eqIsQuiet_tuple hc ?_)
      simp only [Bool.not_true, Bool.false_eq_true, if_false]
      refine wpAny_bind (cls_tup I hk ?_)
      simp only [Bool.false_eq_true, if_false]
      refine wpAny_bind (cls_tup I hc ?_)
      simp only [Bool.false_eq_true, if_false]
      exact wpAny_pure ⟨rfl, rfl, rest'⟩
  · rintro ⟨r1, r2⟩ s' ⟨hr, rfl, _⟩
    simp only at hr
    subst hr
    exact wpAny_pure h
theorem TabSt.size (R : TabSt knd s.heap a L es ep t) : es.size = L.length := by
  rw [← Array.length_toList, R.rows]
  unfold rowK
  rw [List.length_map]
theorem TabSt.fits (R : TabSt knd s.heap a L es ep t) : t.fits es.size = true := by
  have h1 := R.tab.sz
  rw [List.length_map] at h1
  have h2 := R.size
  have h3 := R.room
  unfold SetTable.fits SetTable.fill
  rw [R.tab.dm, Bool.and_eq_true, beq_iff_eq, decide_eq_true_eq]
  show t.place.size = es.size ∧ t.place.size + 0 ≤ t.mask
  omega
theorem row_at (hr : es.toList = rowK knd L) {i : Nat} {p : Value × List κ} (h : L[i]? = some p) : es[i]? = some (kh knd p.2, p.1) := by
  rw [← Array.getElem?_toList, hr]
  unfold rowK
  rw [List.getElem?_map, h] <;> rfl
/-- THE SEARCH, from the c-th step of the way on; K: where the first empty slot stands -/
theorem tab_search (I : ItemK knd) (R : TabSt knd s.heap a L es ep t) {x : Addr} {k : List κ} (hx : IsTupleKey knd s.heap k x) (hu : A.units < cLine) {K : Nat} (hKf : K < 10 * SetTable.turns t.mask)
    (hK : way t.mask (kh knd k) K ∉ t.place.toList) (hKb : ∀ c, c < K → way t.mask (kh knd k) c ∈ t.place.toList) {Q : SetFound → Shared → Prop}
    (hin : k ∈ L.map (·.2) → Q (.there none) s) (hout : k ∉ L.map (·.2) → Q (.free (way t.mask (kh knd k) K) false) s) :
    ∀ (f c : Nat) (stand : Option SetTable.Probe), stand.getD (t.probeStart (kh knd k)) = nth t.mask (runAt t.mask (SetTable.bits (kh knd k) % (t.mask + 1)) (SetTable.bits (kh knd k))) c → c ≤ K → K - c < f →
      (∀ (i : Nat) p, L[i]? = some p → p.2 = k → ∃ c', c ≤ c' ∧ c' < K ∧ t.place.toList[i]? = some (way t.mask (kh knd k) c')) →
      wpAny (model P w) A (setSearchFrom a (.ref x) (kh knd k) true f stand) Q E s := by
  intro f
  induction f with
  | zero => intro c stand _ _ hf _; exact absurd hf (Nat.not_lt_zero _)
  | succ f ih =>
    intro c stand hst hc hf hre
    obtain ⟨o, ho, hex, hd⟩ := R.ob
    generalize hH : kh knd k = H at *
    generalize hp0 : runAt t.mask (SetTable.bits H % (t.mask + 1)) (SetTable.bits H) = p0 at *
    have wj : ∀ q, way t.mask H q = (nth t.mask p0 q).j := fun q => by rw [← hp0]
    rw [setSearchFrom_succ]
    refine wpAny_bind (wpAny_setState_of ho hd R.fits ?_)
    dsimp only
    refine wp_if_neg (by unfold SetTable.gaveWay; rw [mask_odd R.tab.mok]; decide) ?_
    try refine wpAny_bind (wpAny_pure ?_)
    have hnd : (nth t.mask p0 c).dummy = none := by
      have key : ∀ (n : Nat) (p : SetTable.Probe), p.dummy = none → (nth t.mask p n).dummy = none := by
        intro n
        induction n with
        | zero => intro p h; exact h
        | succ n ih =>
          intro p h
          refine ih (adv t.mask p) ?_
          unfold adv
          split <;> exact h
      exact key c _ (by rw [← hp0]; rfl)
    have sh : ∀ q, nth t.mask (nth t.mask p0 c) q = nth t.mask p0 (c + q) := fun q => (nth_add t.mask c _ q).symm
    have hashAt : ∀ (i : Nat) p, L[i]? = some p → (fun i => (es[i]?.map (·.1)).getD 0) i = kh knd p.2 := fun i p hp => by
      show (es[i]?.map (·.1)).getD 0 = _
      rw [row_at R.rows hp] <;> rfl
    have spec := go_spec t R.tab.ris R.tab.dm (fun i => (es[i]?.map (·.1)).getD 0) H (10 * SetTable.turns t.mask) (K - c) (nth t.mask p0 c) hnd (by omega)
      (fun q hq => by rw [sh, ← wj]; exact hKb (c + q) (by omega)) (by rw [sh, show c + (K - c) = K by omega, ← wj]; exact hK)
    -- a row with the very key is not passed
    have stays : ∀ q : Nat, (∀ k' i' : Nat, k' < q → t.place.toList[i']? = some (nth t.mask (nth t.mask p0 c) k').j → (fun i => (es[i]?.map (·.1)).getD 0) i' ≠ H) → ∀ (i0 : Nat) (p1 : Value × List κ), L[i0]? = some p1 → p1.2 = k → ∃ c', c + q ≤ c' ∧ c' < K ∧ t.place.toList[i0]? = some (way t.mask H c') := fun q hno i0 p1 h1 h2 => by
      obtain ⟨c', a1, a2, a3⟩ := hre i0 p1 h1 h2
      refine ⟨c', ?_, a2, a3⟩
      apply Classical.byContradiction
      intro hlt
      refine hno (c' - c) i0 (by omega) (by rw [sh, show c + (c' - c) = c' by omega, ← wj]; exact a3) ?_
      rw [hashAt i0 p1 h1, h2, hH]
    rcases spec with ⟨q, i, hq, hi, hh, hno, hpr⟩ | ⟨hno, hpr⟩
    · have hpr' : t.probe (fun i => (es[i]?.map (·.1)).getD 0) H (stand.getD (t.probeStart H)) = some (.candidate (way t.mask H (c + q)) i (nth t.mask p0 (c + (q + 1)))) := by
        rw [hst, wj, ← sh, ← sh]
        exact hpr
      rw [hpr']
      dsimp only
      rw [sh, ← wj] at hi
      have hil : i < L.length := by
        have h1 : i < t.place.toList.length := (List.getElem?_eq_some_iff.mp hi).1
        have h2 := R.tab.sz
        rw [List.length_map] at h2
        rw [Array.length_toList] at h1
        omega
      obtain ⟨p, hp⟩ : ∃ p, L[i]? = some p := ⟨_, List.getElem?_eq_getElem hil⟩
      have hmem : p ∈ L := List.mem_of_getElem? hp
      obtain ⟨b, hb, hpt⟩ := R.tup p hmem
      have hrow : es[i]? = some (kh knd p.2, Value.ref b) := by rw [row_at R.rows hp, hb]
      have rest : wpAny (model P w) A (searchRest a (.ref x) H true f es t (way t.mask H (c + q)) i (nth t.mask p0 (c + (q + 1)))) Q E s := by
        unfold searchRest
        rw [hrow]
        dsimp only
        refine wpAny_bind (wpAny_holding (wpAny_eqBool_tuple hu hpt hx ?_))
        refine wpAny_bind (wpAny_setState_of ho hd R.fits ?_)
        dsimp only
        by_cases hkk : p.2 = k
        · refine wp_if_pos (by simp [hkk]) ?_
          exact wpAny_pure (hin (List.mem_map.mpr ⟨p, hmem, hkk⟩))
        · refine wp_if_neg (by simp [hkk]) ?_
          try refine wpAny_bind (wpAny_pure ?_)
          rw [sameMem]
          dsimp only
          have hsl : t.slot (way t.mask H (c + q)) = .live i := slot_live R.tab.ris hi
          simp only [if_true, hsl, hrow]
          refine wpAny_bind (wpAny_isSame_ref_self (wpAny_bind (wpAny_pure ?_)))
          simp only [if_true]
          refine wp_if_neg (by simp [hkk]) ?_
          refine ih (c + (q + 1)) _ rfl (by omega) (by omega) fun i0 p1 h1 h2 => ?_
          obtain ⟨c', a1, a2, a3⟩ := stays q hno i0 p1 h1 h2
          refine ⟨c', ?_, a2, a3⟩
          rcases Nat.lt_or_ge (c + q) c' with y | y
          · omega
          · exfalso
            have ec : c' = c + q := by omega
            rw [ec] at a3
            have s0 := slot_live R.tab.ris a3
            rw [hsl] at s0
            injection s0 with s0
            rw [← s0, hp] at h1
            exact hkk ((congrArg Prod.snd (Option.some.inj h1)).trans h2)
      by_cases hl : t.led = true
      · refine wp_if_neg (by simp [hl]) ?_
        try refine wpAny_bind (wpAny_pure ?_)
        exact rest
      · refine wp_if_pos (by simp [hl]) ?_
        refine wpAny_bind (seen_none I hx (fun y hy => ?_) ?_)
        · obtain ⟨e, he, ee⟩ := List.mem_map.mp hy
          have he1 : e ∈ es ∧ e.1 = H := by simpa using he
          have he2 : e ∈ es.toList := by simpa using he1.1
          rw [R.rows] at he2
          obtain ⟨p2, hp2, e2⟩ := List.mem_map.mp he2
          rw [← ee, ← e2]
          exact ⟨p2.2, R.tup p2 hp2⟩
        · refine wp_if_neg (by decide) ?_
          try refine wpAny_bind (wpAny_pure ?_)
          exact rest
    · have hpr' : t.probe (fun i => (es[i]?.map (·.1)).getD 0) H (stand.getD (t.probeStart H)) = some (.empty (way t.mask H K) none) := by
        have e2 : way t.mask H K = (nth t.mask (nth t.mask p0 c) (K - c)).j := by rw [sh, show c + (K - c) = K by omega, ← wj]
        rw [hst, e2]
        exact hpr
      rw [hpr']
      dsimp only
      refine wpAny_pure (hout fun hm => ?_)
      obtain ⟨p1, h1, hk1⟩ := List.mem_map.mp hm
      obtain ⟨i0, hi0, e0⟩ := List.getElem_of_mem h1
      obtain ⟨c', a1, a2, a3⟩ := stays (K - c) hno i0 p1 (by rw [List.getElem?_eq_getElem hi0, e0]) hk1
      omega
theorem isTk_same {h h' : Heap} {v : Value} {k : List κ} {o : Obj} (hb : IsTk knd h v k) (ho : h.get? a = some o) (hd : o.data = .set es ep t) (hs : Heap.SameBut a h h') : IsTk knd h' v k := by
  obtain ⟨b, rfl, o', items, n, ho', hc, hd', hi⟩ := hb
  have hne : b ≠ a := by
    rintro rfl
    obtain rfl : o' = o := Option.some.inj (ho'.symm.trans ho)
    rw [hd] at hd'
    exact nomatch hd'
  exact ⟨b, rfl, o', items, n, (hs.2 b hne).trans ho', hc, hd', hi⟩
theorem rowK_order (order : Array Nat) (hr : es.toList = rowK knd L) (hp : order.toList.Perm (List.range L.length)) :
    ∃ L2, (order.filterMap (es[·]?)).toList = rowK knd L2 ∧ L2.Perm L ∧ (L2.map fun p => kh knd p.2) = order.toList.map fun i => (es.map (·.1)).getD i 0 := by
  have hsz : es.size = L.length := by rw [← Array.length_toList, hr]; unfold rowK; rw [List.length_map]
  have key : ∀ l : List Nat, (∀ i ∈ l, i < L.length) → l.filterMap (fun i => es[i]?) = rowK knd (l.filterMap fun i => L[i]?) ∧ ((l.filterMap fun i => L[i]?).map fun p => kh knd p.2) = l.map fun i => (es.map (·.1)).getD i 0 := by
    intro l
    induction l with
    | nil => intro _; exact ⟨rfl, rfl⟩
    | cons i l ih =>
      intro hl
      have hi := hl i List.mem_cons_self
      have hLi : L[i]? = some L[i] := List.getElem?_eq_getElem hi
      have hei := row_at hr hLi
      obtain ⟨e1, e2⟩ := ih fun j hj => hl j (List.mem_cons_of_mem _ hj)
      refine ⟨?_, ?_⟩
      · rw [List.filterMap_cons_some hei, List.filterMap_cons_some hLi, e1] <;> rfl
      · rw [List.filterMap_cons_some hLi, List.map_cons, List.map_cons, e2]
        have e4 : (es.map (·.1)).getD i 0 = kh knd L[i].2 := by
          have e5 : (es.map (·.1))[i]? = some (kh knd L[i].2) := by rw [Array.getElem?_map, hei] <;> rfl
          simp [Array.getD_eq_getD_getElem?, e5]
        rw [e4]
  obtain ⟨e1, e2⟩ := key order.toList fun i hi => List.mem_range.mp (hp.mem_iff.mp hi)
  refine ⟨order.toList.filterMap fun i => L[i]?, by first | (rw [Array.toList_filterMap]; exact e1) | simpa using e1, ?_, e2⟩
  have h2 : (List.range L.length).filterMap (fun i => L[i]?) = L := by
    have k2 : ∀ n, n ≤ L.length → (List.range n).filterMap (fun i => L[i]?) = L.take n := by
      intro n
      induction n with
      | zero => intro _; rfl
      | succ n ih =>
        intro hn
        rw [List.range_succ, List.filterMap_append, ih (Nat.le_of_lt hn), List.take_succ, List.getElem?_eq_getElem hn]
        rw [List.filterMap_cons_some (List.getElem?_eq_getElem hn)] <;> rfl
    rw [k2 L.length (Nat.le_refl _), List.take_length]
  have h1 := hp.filterMap fun i => L[i]?
  rw [h2] at h1
  exact h1
theorem tab_relay {o : Obj} (ho : s.heap.get? a = some o) (hex : o.ExactSet) (hd : o.data = .set es ep t) (hrows : es.toList = rowK knd L) (hsz : t.place.size = es.size) (hdm : t.dummies = #[]) (hfl : es.size ≤ t.mask)
    (nd : (L.map (·.2)).Nodup) (tup : ∀ p ∈ L, IsTk knd s.heap p.1 p.2) (ld : w.params.followText "set-order" = true ∨ t.led = true) (few : L.length < 64) {wanted M : Nat}
    (hw : SetTable.sizeAbove wanted - 1 = M) (hM : MaskOk M) (hw2 : SetTable.sizeAbove wanted ≤ 128) (hn : L.length * 5 < M * 3) {Q : Unit → Shared → Prop}
    (hQ : ∀ h' L' es' ep' t', Heap.SameBut a s.heap h' → TabSt (w := w) knd h' a L' es' ep' t' → L'.Perm L → Q () { s with heap := h' }) : wpAny (model P w) A (setRelay a wanted) Q E s := by
  have hsl : es.size = L.length := by rw [← Array.length_toList, hrows]; unfold rowK; rw [List.length_map]
  have hfits : t.fits es.size = true := by
    unfold SetTable.fits SetTable.fill
    rw [hdm, Bool.and_eq_true, beq_iff_eq, decide_eq_true_eq]
    show t.place.size = es.size ∧ t.place.size + 0 ≤ t.mask
    omega
  obtain ⟨t', order, e, hp, T, em, el, _, _⟩ := relaid_ok t (hs := es.map (·.1)) (wanted := wanted) hw hM (by rw [Array.size_map, hsl]; omega)
  rw [Array.size_map, hsl] at hp
  obtain ⟨L2, r1, r2, r3⟩ := rowK_order order hrows hp
  rw [← r3] at T
  have hs2 : (order.filterMap (es[·]?)).size = es.size := by
    rw [← Array.length_toList, r1, hsl]
    unfold rowK
    rw [List.length_map, r2.length_eq]
  rw [setRelay_eq]
  refine wpAny_bind (wpAny_setState_of ho hd hfits ?_)
  dsimp only
  refine wp_if_neg (by rw [sizeLine_eq]; omega) ?_
  try refine wpAny_bind (wpAny_pure ?_)
  rw [e]
  dsimp only
  refine wpAny_bind ?_
  refine wp_if_neg (by rw [hs2]; simp) ?_
  try refine wpAny_bind (wpAny_pure ?_)
  refine wpAny_pure ?_
  dsimp only
  refine wpAny_storeSet_of ho hd ?_ (by rw [hs2, hsl, sizeLine_eq]; omega)
  have sb : Heap.SameBut a s.heap (s.heap.update a (Obj.putSet (order.filterMap (es[·]?)) t')) := Heap.SameBut.update ..
  refine hQ _ L2 (order.filterMap (es[·]?)) (ep + 1) t' sb ?_ r2
  exact ⟨⟨_, store_at ho hd, ⟨hex.1, hex.2.1, hex.2.2⟩, rfl⟩, r1, T, (r2.map (·.2)).nodup_iff.mpr nd, fun p hpm => isTk_same (tup p (r2.mem_iff.mp hpm)) ho hd sb, by rw [el]; exact ld, by rw [r2.length_eq, em]; exact hn, by rw [r2.length_eq]; exact few⟩
theorem tab_add (I : ItemK knd) (R : TabSt (w := w) knd s.heap a L es ep t) {x : Addr} {k : List κ} (hx : IsTupleKey knd s.heap k x) (hu : A.units < cLine) (hfew : L.length + 1 < 64) {Q : Bool → Shared → Prop}
    (hQ : ∀ b h' L' es' ep' t', Heap.SameBut a s.heap h' → TabSt (w := w) knd h' a L' es' ep' t' → (k ∈ L.map (·.2) → L' = L) → (k ∉ L.map (·.2) → L'.Perm ((.ref x, k) :: L)) → Q b { s with heap := h' }) :
    wpAny (model P w) A (setAddHashed a (.ref x) (kh knd k)) Q E s := by
  obtain ⟨o, ho, hex, hd⟩ := R.ob
  have hsl := R.size
  have hroom := R.room
  unfold setAddHashed
  refine wpAny_holding ?_
  rw [show (100000 : Nat) = 99999 + 1 from rfl, setAddHashedIn_succ]
  refine wpAny_bind (wpAny_setState_of ho hd R.fits ?_)
  dsimp only
  refine wp_if_neg (by simp [byScan, Value.scannable]) ?_
  try refine wpAny_bind (wpAny_pure ?_)
  obtain ⟨K, hKf, hK, hKb⟩ := R.tab.first (by rw [List.length_map]; omega) (kh knd k)
  have hbig : K < 100000 := by
    have : 10 * SetTable.turns t.mask ≤ 1420 := by
      unfold SetTable.turns
      rcases R.tab.mok with e | e | e <;> omega
    omega
  have srch : ∀ {Q : SetFound → Shared → Prop}, (k ∈ L.map (·.2) → Q (.there none) s) → (k ∉ L.map (·.2) → Q (.free (way t.mask (kh knd k) K) false) s) → wpAny (model P w) A (setSearch a (.ref x) (kh knd k) true) Q E s := fun {Q} h1 h2 => by
    unfold setSearch
    refine tab_search I R hx hu hKf hK hKb h1 h2 100000 0 none rfl (Nat.zero_le _) (by omega) fun i p hp hk => ?_
    have hi : (L.map fun p => kh knd p.2)[i]? = some (kh knd k) := by rw [List.getElem?_map, hp, ← hk] <;> rfl
    have hil : i < t.place.toList.length := by
      have h1 : i < L.length := (List.getElem?_eq_some_iff.mp hp).1
      have h2 := R.tab.sz
      rw [List.length_map] at h2
      rw [Array.length_toList]
      omega
    have hj := List.getElem?_eq_getElem hil
    obtain ⟨c, hc, e⟩ := R.tab.before hK hi hj
    exact ⟨c, Nat.zero_le _, hc, by rw [hj, e]⟩
  refine wpAny_bind (srch (fun hm => ?_) fun hm => ?_)
  · dsimp only
    exact wpAny_pure (hQ false s.heap L es ep t (Heap.SameBut.refl a s.heap) R (fun _ => rfl) fun z => absurd hm z)
  · dsimp only
    refine wpAny_bind (wpAny_setState_of ho hd R.fits ?_)
    dsimp only
    obtain ⟨q1, q2, q3, q4, q5, q6, q7, q8, q9⟩ := R.tab.put hK hKb
    generalize hpt : t.put (way t.mask (kh knd k) K) = pt at q1 q3 q4 q5 q6 q7 q8 q9 ⊢
    obtain ⟨t1, p⟩ := pt
    dsimp only at q1 q3 q4 q5 q6 q7 q8 q9 ⊢
    subst q1
    have hin : (SetTable.insertAt es (SetTable.below t.place (way t.mask (kh knd k) K)) (kh knd k, Value.ref x)).toList = rowK knd (L.take (SetTable.below t.place (way t.mask (kh knd k) K)) ++ (.ref x, k) :: L.drop (SetTable.below t.place (way t.mask (kh knd k) K))) := by
      rw [SetTable.toList_insertAt, R.rows]
      unfold rowK
      rw [List.map_append, List.map_cons, List.map_take, List.map_drop]
    generalize hpp : SetTable.below t.place (way t.mask (kh knd k) K) = p at q2 q3 hin ⊢
    have pm := put_perm L p (Value.ref x, k)
    have hlen : (L.take p ++ (Value.ref x, k) :: L.drop p).length = L.length + 1 := pm.length_eq
    have hhs : (L.take p ++ (Value.ref x, k) :: L.drop p).map (fun p => kh knd p.2) = (L.map fun p => kh knd p.2).take p ++ kh knd k :: (L.map fun p => kh knd p.2).drop p := by
      rw [List.map_append, List.map_cons, List.map_take, List.map_drop]
    rw [← hhs] at q3
    have nd1 : ((L.take p ++ (Value.ref x, k) :: L.drop p).map (·.2)).Nodup := by
      refine (pm.map (·.2)).nodup_iff.mpr ?_
      rw [List.map_cons]
      exact List.nodup_cons.mpr ⟨hm, R.nd⟩
    have hes : (SetTable.insertAt es p (kh knd k, Value.ref x)).size = L.length + 1 := by
      rw [← Array.length_toList, hin]
      unfold rowK
      rw [List.length_map, hlen]
    generalize SetTable.insertAt es p (kh knd k, Value.ref x) = es1 at hin hes ⊢
    generalize L.take p ++ (Value.ref x, k) :: L.drop p = L1 at pm hlen q3 nd1 hin
    -- the flag of the hashes is of no weight
    have go : ∀ t2 : SetTable, TabOk t2 (L1.map fun p => kh knd p.2) → t2.mask = t.mask → t2.led = t.led → t2.fill = L.length + 1 → wpAny (model P w) A (do
        storeSet a es1 t2
        if (!false && t2.tooFull) = true then setRelay a (SetTable.grown (es.size + 1))
        return true) Q E s := fun t2 T2 m2 l2 f2 => by
      refine wpAny_bind (wpAny_storeSet_of ho hd ?_ (by rw [hes, sizeLine_eq]; omega))
      have sb : Heap.SameBut a s.heap (s.heap.update a (Obj.putSet es1 t2)) := Heap.SameBut.update ..
      have ho1 := store_at (es' := es1) (t' := t2) ho hd
      generalize s.heap.update a (Obj.putSet es1 t2) = h1 at sb ho1 ⊢
      have tup1 : ∀ p ∈ L1, IsTk knd h1 p.1 p.2 := fun p hp => by
        rcases List.mem_cons.mp (pm.mem_iff.mp hp) with e | hp
        · rw [e]; exact isTk_same ⟨x, rfl, hx⟩ ho hd sb
        · exact isTk_same (R.tup p hp) ho hd sb
      have ld1 : w.params.followText "set-order" = true ∨ t2.led = true := by rw [l2]; exact R.led
      show wpAny _ _ (if (!false && t2.tooFull) = true then (setRelay a (SetTable.grown (es.size + 1)) >>= fun _ => pure true) else pure true) Q E _
      by_cases hf : t2.tooFull = true
      · refine wp_if_pos (by simp [hf]) (wpAny_bind ?_)
        have hfull : (L.length + 1) * 5 ≥ t2.mask * 3 := by
          have h := hf
          unfold SetTable.tooFull at h
          rw [decide_eq_true_eq, f2] at h
          exact h
        rw [hsl]
        have hsz1 : t2.place.size = es1.size := by
          have h := T2.sz
          rw [List.length_map, hlen] at h
          rw [h, hes]
        have cases2 : (t.mask = 7 ∧ L.length = 4) ∨ (t.mask = 31 ∧ L.length = 18) := by
          rcases R.tab.mok with e | e | e
          · left; rw [m2, e] at hfull; rw [e] at hroom; exact ⟨e, by omega⟩
          · right; rw [m2, e] at hfull; rw [e] at hroom; exact ⟨e, by omega⟩
          · exfalso; rw [m2, e] at hfull; omega
        have goM : ∀ M, SetTable.sizeAbove (SetTable.grown (L.length + 1)) - 1 = M → MaskOk M → SetTable.sizeAbove (SetTable.grown (L.length + 1)) ≤ 128 → (L.length + 1) * 5 < M * 3 →
            wpAny (model P w) A (setRelay a (SetTable.grown (L.length + 1))) (fun _ s' => wpAny (model P w) A (pure true) Q E s') E { s with heap := h1 } := fun M h1' h2' h3' h4' => by
          refine tab_relay (s := { s with heap := h1 }) ho1 ⟨hex.1, hex.2.1, hex.2.2⟩ rfl hin hsz1 T2.dm (by rw [hes, m2]; rcases cases2 with ⟨e, e2⟩ | ⟨e, e2⟩ <;> omega) nd1 tup1 ld1 (by rw [hlen]; exact hfew) h1' h2' h3' (by rw [hlen]; exact h4') ?_
          intro h2 L2 es2 ep2 t3 sb2 R2 pm2
          exact wpAny_pure (hQ true h2 L2 es2 ep2 t3 (sb.trans sb2) R2 (fun z => absurd z hm) fun _ => pm2.trans pm)
        rcases cases2 with ⟨_, e2⟩ | ⟨_, e2⟩
        · exact goM 31 (by rw [e2, size_20]) (.inr (.inl rfl)) (by rw [e2, size_20]; decide) (by omega)
        · exact goM 127 (by rw [e2, size_76]) (.inr (.inr rfl)) (by rw [e2, size_76]; decide) (by omega)
      · refine wp_if_neg (by simp [hf]) ?_
        refine wpAny_pure (hQ true h1 L1 es1 (ep + 1) t2 sb ⟨⟨_, ho1, ⟨hex.1, hex.2.1, hex.2.2⟩, rfl⟩, hin, T2, nd1, tup1, ld1, ?_, by rw [hlen]; exact hfew⟩ (fun z => absurd z hm) fun _ => pm)
        have h := hf
        unfold SetTable.tooFull at h
        rw [decide_eq_true_eq, f2] at h
        rw [hlen]
        omega
    by_cases hp1 : t1.plain = true
    · refine wp_if_pos hp1 (wpAny_bind (hbv_tup I hx fun c => ?_))
      cases c with
      | true => exact go t1 q3 q4 q5 (by rw [q9, List.length_map])
      | false => exact go { t1 with plain := false } ⟨q3.ris, q3.dm, q3.sz, q3.mok, q3.bd, q3.reach⟩ q4 q5 (by
        have h : ({ t1 with plain := false } : SetTable).fill = t1.fill := rfl
        rw [h, q9, List.length_map])
    · refine wp_if_neg hp1 (wpAny_bind (wpAny_pure ?_))
      exact go t1 q3 q4 q5 (by rw [q9, List.length_map])
end
/-- THE INSTANCE -/
def TabS {P : Program} {w : World} {κ : Type} [DecidableEq κ] (knd : PySem.KeyKind P w κ) (h : Heap) (a : Addr) (L : List (Value × List κ)) : Prop := ∃ es ep t, TabSt (w := w) knd h a L es ep t
theorem isTk_keep {P : Program} {w : World} {κ : Type} [DecidableEq κ] {knd : PySem.KeyKind P w κ} {h h' : Heap} {v : Value} {k : List κ} (x : IsTk knd h v k) (hk : ∀ b o, h.get? b = some o → h'.get? b = some o) : IsTk knd h' v k := by
  obtain ⟨b, rfl, o, items, n, ho, r⟩ := x
  exact ⟨b, rfl, o, items, n, hk b o ho, r⟩
theorem setW_tab {P : Program} {w : World} {κ : Type} [DecidableEq κ] (knd : PySem.KeyKind P w κ) (I : ItemK knd) : SetW P w (fun h v k => IsTk knd h v k) (TabS knd) where
  keepE := isTk_keep
  keepS := fun ⟨es, ep, t, R⟩ k e => by
    obtain ⟨o, ho, r⟩ := R.ob
    exact ⟨es, ep, t, ⟨o, k o ho, r⟩, R.rows, R.tab, R.nd, e, R.led, R.room, R.few⟩
  new := fun {h a} ho => ⟨#[], 0, _, ⟨_, ho, ⟨rfl, rfl, rfl⟩, rfl⟩, rfl, ⟨List.Pairwise.nil, rfl, rfl, .inl rfl, fun x hx => (by cases hx), fun i h j hi => (by simp at hi)⟩, List.nodup_nil, fun p hp => (by cases hp), by
    show _ ∨ (!w.params.followText "set-order") = true
    cases w.params.followText "set-order"
    · exact .inr rfl
    · exact .inl rfl, by show 0 * 5 < 7 * 3; decide, by show 0 < 64; decide⟩
  add := fun {A E s a L v k Q} ⟨es, ep, t, R⟩ hk hfew hu hQ => by
    obtain ⟨b, rfl, hb⟩ := hk
    unfold setAdd
    refine wpAny_holding ?_
    refine wpAny_bind (wpAny_pyHash_tuple hu hb ?_)
    exact tab_add (s := { s with toks := s.toks + (k.length + 1) }) I R hb hu hfew fun c h' L' es' ep' t' sb R' c1 c2 => hQ c h' _ L' sb ⟨es', ep', t', R'⟩ c1 c2
  out := fun {h a L} ⟨es, ep, t, R⟩ => by
    obtain ⟨o, ho, hex, hd⟩ := R.ob
    have hsz : es.size = L.length := by rw [← Array.length_toList, R.rows]; unfold rowK; rw [List.length_map]
    have hfew := R.few
    refine ⟨es, ep, t, ⟨o, ho, hex.1, hd⟩, ?_, by rw [hsz]; unfold scanBound; omega, R.tab.ris, R.led, ?_⟩
    · have h1 := R.tab.sz
      rw [List.length_map] at h1
      have h3 := R.room
      unfold SetTable.fits SetTable.fill
      rw [R.tab.dm, Bool.and_eq_true, beq_iff_eq, decide_eq_true_eq]
      show t.place.size = es.size ∧ t.place.size + 0 ≤ t.mask
      omega
    · rw [R.rows]
      unfold rowK
      rw [List.map_map] <;> rfl
  nodup := fun ⟨es, ep, t, R⟩ => R.nd
  elem := fun ⟨es, ep, t, R⟩ => R.tup
end Qt
/-! Qb: what a reading evaluates to, as data. -/
namespace Qt
open PySem PySem.Spec PyProof.Rows L2
abbrev VP := V → Hp → Prop
/-- a word of a value stays while the heap grows -/
def Stb (P : VP) : Prop := ∀ v H H', Same H H' → P v H → P v H'
/-- data in tuples | the very value | a new list of data -/
def Dd (d : PyData) : VP := fun v H => Rp H v d
def Ex (u : V) : VP := fun v _ => v = u
def Ls (ds : List PyData) : VP := fun v H => ∃ p xs, v = .ref p ∧ H p = some (.lst xs) ∧ RpAll H xs ds
theorem stb_d (d : PyData) : Stb (Dd d) := fun v H H' s h => Rp.sm h s
theorem stb_x (u : V) : Stb (Ex u) := fun v H H' s h => h
theorem stb_l (ds : List PyData) : Stb (Ls ds) := fun v H H' s ⟨p, xs, e, h, r⟩ => ⟨p, xs, e, s _ _ h, r.sm s⟩
def AllP : List VP → List V → Hp → Prop
  | [], vs, _ => vs = []
  | P :: Ps, vs, H => ∃ v r, vs = v :: r ∧ P v H ∧ AllP Ps r H
def Ev (te : TE) (σ : L2.St) (H : Hp) (P : VP) : Prop := ∀ H1, Same H H1 → ∀ Q : VK, (∀ v H2, Same H1 H2 → P v H2 → Q v H2) → te σ H1 Q
def EvA (ta : TA) (σ : L2.St) (H : Hp) (Ps : List VP) : Prop := ∀ H1, Same H H1 → ∀ Q : List V → Hp → Prop, (∀ vs H2, Same H1 H2 → AllP Ps vs H2 → Q vs H2) → ta σ H1 Q
def EvT (tt : TT) (σ : L2.St) (H : Hp) (b : Bool) : Prop := ∀ H1, Same H H1 → ∀ Q : Bool → Hp → Prop, (∀ H2, Same H1 H2 → Q b H2) → tt σ H1 Q
/-- a call by values | an operator by values -/
def CvR (r : List V → Hp → VK → Prop) (Ps : List VP) (H : Hp) (P : VP) : Prop := ∀ vs H1, Same H H1 → AllP Ps vs H1 → ∀ Q : VK, (∀ v H2, Same H1 H2 → P v H2 → Q v H2) → r vs H1 Q
def OvR (r : R2) (A B : VP) (H : Hp) (P : VP) : Prop := ∀ x y H1, Same H H1 → A x H1 → B y H1 → ∀ Q : VK, (∀ v H2, Same H1 H2 → P v H2 → Q v H2) → r x y H1 Q
/-- the readings of len, tuple(..), list(..) -/
def rLenA (K : PySem.W.Frag) : List V → Hp → VK → Prop := fun xs H Q => ∃ x n, xs = [x] ∧ LenV K x H n ∧ Q (.int n) H
def rTupO (K : PySem.W.Frag) : List V → Hp → VK → Prop := fun xs H Q => ∃ p ys, xs = [.ref p] ∧ ((SqL K H p ys ∧ ∀ l, H l = none → Q (.ref l) (upd H l (.tup ys))) ∨ (SqT K H p ys ∧ Q (.ref p) H))
def rLstO (K : PySem.W.Frag) : List V → Hp → VK → Prop := fun xs H Q => ∃ p ys, xs = [.ref p] ∧ (SqL K H p ys ∨ SqT K H p ys) ∧ ∀ l, H l = none → Q (.ref l) (upd H l (.lst ys))
theorem same_new {H : Hp} {p : Addr} {o : HO} (h : H p = none) : Same H (upd H p o) := fun a u e => by
  rw [upd_ne (ne_of_none e h)]
  exact e
theorem same_mut {H H' : Hp} {p : Addr} {o : HO} (e : Same H H') (h : H p = none) : Same H (upd H' p o) := fun a u ha => by
  rw [upd_ne (ne_of_none ha h)]
  exact e a u ha
section
variable {K : PySem.W.Frag} {σ : L2.St} {H H' : Hp} {te ta tb tx : TE} {tt tu : TT} {P A B C : VP} {Ps : List VP} {as tr : TA} {r : R2} {v : V} {b c : Bool} {d : PyData} {ds : List PyData}
theorem Ev.mono (s : Same H H') (h : Ev te σ H P) : Ev te σ H' P := fun H1 s1 Q q => h H1 (s.trans s1) Q q
theorem EvT.mono (s : Same H H') (h : EvT tt σ H b) : EvT tt σ H' b := fun H1 s1 Q q => h H1 (s.trans s1) Q q
theorem Ev.imp (h : Ev te σ H P) (k : ∀ v H', Same H H' → P v H' → A v H') : Ev te σ H A := fun H1 s1 Q q => h H1 s1 Q fun v H2 s2 p => q v H2 s2 (k v H2 (s1.trans s2) p)
theorem ev_var {i : Nat} (h : σ[i]? = some (some v)) (p : P v H) (st : Stb P) : Ev (tVar i) σ H P := fun H1 s Q q => ⟨v, h, q v H1 (Same.refl _) (st v H H1 s p)⟩
theorem ev_varD {i : Nat} (h : σ[i]? = some (some v)) (p : Rp H v d) : Ev (tVar i) σ H (Dd d) := ev_var h p (stb_d d)
theorem ev_varX {i : Nat} (h : σ[i]? = some (some v)) : Ev (tVar i) σ H (Ex v) := ev_var h rfl (stb_x v)
theorem ev_c (h : ∀ H, P v H) : Ev (tC v) σ H P := fun H1 _ Q q => q v H1 (Same.refl _) (h _)
theorem ev_int {i : Int} : Ev (tC (.int i)) σ H (Dd (.int i)) := ev_c fun _ => .int i
theorem ev_str {x : Str} : Ev (tC (.str x)) σ H (Dd (.str x)) := ev_c fun _ => .str x
theorem ev_bl {b : Bool} : Ev (tC (.bl b)) σ H (Dd (.bool b)) := ev_c fun _ => .bl b
theorem ev_non : Ev (tC .non) σ H (Dd .none) := ev_c fun _ => .non
theorem ev_ty {t : String} : Ev (tC (.ty t)) σ H (Ex (.ty t)) := ev_c fun _ => rfl
theorem ea_nil : EvA tNil σ H [] := fun H1 _ Q q => q [] H1 (Same.refl _) rfl
theorem ea_cons (h : Ev te σ H P) (st : Stb P) (hr : EvA tr σ H Ps) : EvA (tCons te tr) σ H (P :: Ps) := fun H1 s Q q =>
  h H1 s _ fun v H2 s2 p => hr H2 (s.trans s2) _ fun vs H3 s3 ps => q _ H3 (s2.trans s3) ⟨v, vs, rfl, st v H2 H3 s3 p, ps⟩
theorem ea_d (h : Ev te σ H (Dd d)) (hr : EvA tr σ H Ps) : EvA (tCons te tr) σ H (Dd d :: Ps) := ea_cons h (stb_d d) hr
theorem ea_x (h : Ev te σ H (Ex v)) (hr : EvA tr σ H Ps) : EvA (tCons te tr) σ H (Ex v :: Ps) := ea_cons h (stb_x v) hr
theorem ea_l (h : Ev te σ H (Ls ds)) (hr : EvA tr σ H Ps) : EvA (tCons te tr) σ H (Ls ds :: Ps) := ea_cons h (stb_l ds) hr
theorem allP_d {vs : List V} : ∀ {ds : List PyData} {vs : List V}, AllP (ds.map Dd) vs H → RpAll H vs ds
  | [], _, h => by
    obtain rfl : _ = [] := h
    exact .nil
  | d :: ds, _, ⟨v, r, e, h1, h2⟩ => by
    subst e
    exact .cons h1 (allP_d (vs := r) h2)
theorem allP_len : ∀ {Ps : List VP} {vs : List V}, AllP Ps vs H → vs.length = Ps.length
  | [], _, h => by
    obtain rfl : _ = [] := h
    rfl
  | P :: Ps, _, ⟨v, r, e, h1, h2⟩ => by
    subst e
    rw [List.length_cons, List.length_cons, allP_len h2]
theorem ev_op (ha : Ev ta σ H A) (st : Stb A) (hb : Ev tb σ H B) (hr : OvR r A B H P) : Ev (tOp r ta tb) σ H P := fun H1 s Q q =>
  ha H1 s _ fun x H2 s2 p2 => hb H2 (s.trans s2) _ fun y H3 s3 p3 => hr x y H3 ((s.trans s2).trans s3) (st x H2 H3 s3 p2) p3 Q fun v H4 s4 p4 => q v H4 ((s2.trans s3).trans s4) p4
theorem ev_un {r : V → Hp → VK → Prop} (ha : Ev ta σ H A) (hr : ∀ x H1, Same H H1 → A x H1 → ∀ Q : VK, (∀ v H2, Same H1 H2 → P v H2 → Q v H2) → r x H1 Q) : Ev (tUn r ta) σ H P := fun H1 s Q q =>
  ha H1 s _ fun x H2 s2 p2 => hr x H2 (s.trans s2) p2 Q fun v H3 s3 p3 => q v H3 (s2.trans s3) p3
theorem ev_neg {i : Int} (ha : Ev ta σ H (Dd (.int i))) : Ev (tUn (rU fun i => .int (-i)) ta) σ H (Dd (.int (-i))) := ev_un ha fun x H1 s p Q q => ⟨i, rp_int p, q _ H1 (Same.refl _) (.int _)⟩
theorem ev_cb {r : List V → Hp → VK → Prop} (ha : EvA as σ H Ps) (hr : CvR r Ps H P) : Ev (tCB r as) σ H P := fun H1 s Q q =>
  ha H1 s _ fun vs H2 s2 p2 => hr vs H2 (s.trans s2) p2 Q fun v H3 s3 p3 => q v H3 (s2.trans s3) p3
/-- what a promise gives of values -/
def SpV (sp : Sp) (Ps : List VP) (H : Hp) (P : VP) : Prop := ∀ vs H1, Same H H1 → AllP Ps vs H1 → ∀ Q : VK, (∀ v H2, Same H1 H2 → P v H2 → Q v H2) → sp vs H1 Q E0
theorem ev_call {sp : Sp} (ha : EvA as σ H Ps) (hr : SpV sp Ps H P) : Ev (tCall sp [] E0 as) σ H P := fun H1 s Q q =>
  ha H1 s _ fun vs H2 s2 p2 => by
    rw [List.append_nil]
    exact hr vs H2 (s.trans s2) p2 Q fun v H3 s3 p3 => q v H3 (s2.trans s3) p3
theorem ev_tup (ha : EvA as σ H (ds.map Dd)) (hz : ds.length ≤ 100000) : Ev (tTup as) σ H (Dd (.tuple ds)) := fun H1 s Q q =>
  ha H1 s _ fun vs H2 s2 p2 => by
    have r := allP_d (vs := vs) p2
    refine ⟨by rw [r.length]; exact Nat.le_trans hz (by decide), fun p hp => q _ _ (s2.trans (same_new hp)) (.tup upd_same (r.sm (same_new hp)))⟩
theorem ev_lst (ha : EvA as σ H (ds.map Dd)) (hz : ds.length ≤ 100000) : Ev (tLst as) σ H (Ls ds) := fun H1 s Q q =>
  ha H1 s _ fun vs H2 s2 p2 => by
    have r := allP_d (vs := vs) p2
    refine ⟨by rw [r.length]; exact Nat.le_trans hz (by decide), fun p hp => q _ _ (s2.trans (same_new hp)) ⟨p, vs, rfl, upd_same, r.sm (same_new hp)⟩⟩
/-! tests -/
theorem et_test (h : Ev te σ H (Dd (.bool b))) : EvT (tTest te) σ H b := fun H1 s Q q => h H1 s _ fun v H2 s2 p => ⟨b, rp_bl p, q H2 s2⟩
theorem et_B (h : Ev te σ H (Dd (.bool b))) : EvT (tB te) σ H b := fun H1 s Q q => h H1 s _ fun v H2 s2 p => ⟨b, rp_bl p, q H2 s2⟩
theorem et_yes : EvT tYes σ H true := fun H1 _ Q q => q H1 (Same.refl _)
theorem et_and (h1 : EvT tt σ H b) (h2 : b = true → EvT tu σ H c) : EvT (tAnd tt tu) σ H (b && c) := fun H1 s Q q => h1 H1 s _ fun H2 s2 => by
  cases b with
  | true =>
    show tu σ H2 Q
    exact h2 rfl H2 (s.trans s2) Q fun H3 s3 => q H3 (s2.trans s3)
  | false =>
    show Q false H2
    exact q H2 s2
theorem et_or (h1 : EvT tt σ H b) (h2 : b = false → EvT tu σ H c) : EvT (tOr tt tu) σ H (b || c) := fun H1 s Q q => h1 H1 s _ fun H2 s2 => by
  cases b with
  | true =>
    show Q true H2
    exact q H2 s2
  | false =>
    show tu σ H2 Q
    exact h2 rfl H2 (s.trans s2) Q fun H3 s3 => q H3 (s2.trans s3)
theorem et_not (h1 : EvT tt σ H b) : EvT (tNot tt) σ H (!b) := fun H1 s Q q => h1 H1 s _ fun H2 s2 => q H2 s2
theorem et_is (h : EvT tt σ H b) (e : b = c) : EvT tt σ H c := e ▸ h
theorem ev_and (h1 : Ev ta σ H (Dd (.bool b))) (h2 : b = true → Ev tb σ H (Dd (.bool c))) : Ev (tAndV ta tb) σ H (Dd (.bool (b && c))) := fun H1 s Q q => h1 H1 s _ fun v H2 s2 p => ⟨b, rp_bl p, by
  cases b with
  | true =>
    show tb σ H2 Q
    exact h2 rfl H2 (s.trans s2) Q fun w H3 s3 p3 => q w H3 (s2.trans s3) p3
  | false =>
    show Q (.bl false) H2
    exact q _ H2 s2 (.bl _)⟩
theorem ev_or (h1 : Ev ta σ H (Dd (.bool b))) (h2 : b = false → Ev tb σ H (Dd (.bool c))) : Ev (tOrV ta tb) σ H (Dd (.bool (b || c))) := fun H1 s Q q => h1 H1 s _ fun v H2 s2 p => ⟨b, rp_bl p, by
  cases b with
  | true =>
    show Q (.bl true) H2
    exact q _ H2 s2 (.bl _)
  | false =>
    show tb σ H2 Q
    exact h2 rfl H2 (s.trans s2) Q fun w H3 s3 p3 => q w H3 (s2.trans s3) p3⟩
theorem ev_not (h1 : Ev ta σ H (Dd (.bool b))) : Ev (tNotV ta) σ H (Dd (.bool (!b))) := fun H1 s Q q => h1 H1 s _ fun v H2 s2 p => ⟨b, rp_bl p, q _ H2 s2 (.bl _)⟩
theorem ev_if (h : EvT tt σ H b) (h1 : b = true → Ev ta σ H P) (h2 : b = false → Ev tb σ H P) : Ev (tIf tt ta tb) σ H P := fun H1 s Q q => h H1 s _ fun H2 s2 => by
  cases b with
  | true =>
    show ta σ H2 Q
    exact h1 rfl H2 (s.trans s2) Q fun v H3 s3 => q v H3 (s2.trans s3)
  | false =>
    show tb σ H2 Q
    exact h2 rfl H2 (s.trans s2) Q fun v H3 s3 => q v H3 (s2.trans s3)
theorem ev_is {d' : PyData} (h : Ev te σ H (Dd d)) (e : d = d') : Ev te σ H (Dd d') := e ▸ h
/-! operators -/
theorem ov_I0 {g : Int → Int → V} {i j : Int} (h : ∀ H, P (g i j) H) : OvR (rI0 g) (Dd (.int i)) (Dd (.int j)) H P := fun x y H1 s p1 p2 Q q => ⟨i, j, rp_int p1, rp_int p2, q _ H1 (Same.refl _) (h _)⟩
theorem ov_I {C : Int → Int → Prop} {g : Int → Int → V} {i j : Int} (hc : C i j) (h : ∀ H, P (g i j) H) : OvR (rI C g) (Dd (.int i)) (Dd (.int j)) H P := fun x y H1 s p1 p2 Q q => ⟨i, j, rp_int p1, rp_int p2, hc, q _ H1 (Same.refl _) (h _)⟩
theorem ev_add {i j : Int} (ha : Ev ta σ H (Dd (.int i))) (hb : Ev tb σ H (Dd (.int j))) : Ev (tOp (rI0 fun i j => .int (i + j)) ta tb) σ H (Dd (.int (i + j))) := ev_op ha (stb_d _) hb (ov_I0 fun _ => .int _)
theorem ev_sub {i j : Int} (ha : Ev ta σ H (Dd (.int i))) (hb : Ev tb σ H (Dd (.int j))) : Ev (tOp (rI0 fun i j => .int (i - j)) ta tb) σ H (Dd (.int (i - j))) := ev_op ha (stb_d _) hb (ov_I0 fun _ => .int _)
theorem ev_lt {i j : Int} (ha : Ev ta σ H (Dd (.int i))) (hb : Ev tb σ H (Dd (.int j))) : Ev (tOp (rI0 fun i j => .bl (decide (i < j))) ta tb) σ H (Dd (.bool (decide (i < j)))) := ev_op ha (stb_d _) hb (ov_I0 fun _ => .bl _)
theorem ev_le {i j : Int} (ha : Ev ta σ H (Dd (.int i))) (hb : Ev tb σ H (Dd (.int j))) : Ev (tOp (rI0 fun i j => .bl (decide (i ≤ j))) ta tb) σ H (Dd (.bool (decide (i ≤ j)))) := ev_op ha (stb_d _) hb (ov_I0 fun _ => .bl _)
theorem ev_gt {i j : Int} (ha : Ev ta σ H (Dd (.int i))) (hb : Ev tb σ H (Dd (.int j))) : Ev (tOp (rI0 fun i j => .bl (decide (j < i))) ta tb) σ H (Dd (.bool (decide (j < i)))) := ev_op ha (stb_d _) hb (ov_I0 fun _ => .bl _)
theorem ev_ge {i j : Int} (ha : Ev ta σ H (Dd (.int i))) (hb : Ev tb σ H (Dd (.int j))) : Ev (tOp (rI0 fun i j => .bl (decide (j ≤ i))) ta tb) σ H (Dd (.bool (decide (j ≤ i)))) := ev_op ha (stb_d _) hb (ov_I0 fun _ => .bl _)
theorem ev_eqI {i j : Int} (ha : Ev ta σ H (Dd (.int i))) (hb : Ev tb σ H (Dd (.int j))) : Ev (tOp rEq ta tb) σ H (Dd (.bool (decide (i = j)))) := ev_op ha (stb_d _) hb fun x y H1 s p1 p2 Q q => by
  rw [rp_int p1, rp_int p2]
  refine ⟨rfl, q _ H1 (Same.refl _) ?_⟩
  have e : decide (V.int i = V.int j) = decide (i = j) := by simp
  rw [e]
  exact .bl _
theorem ev_eqS {x y : Str} (ha : Ev ta σ H (Dd (.str x))) (hb : Ev tb σ H (Dd (.str y))) : Ev (tOp rEq ta tb) σ H (Dd (.bool (decide (x = y)))) := ev_op ha (stb_d _) hb fun u v H1 s p1 p2 Q q => by
  rw [rp_str p1, rp_str p2]
  refine ⟨rfl, q _ H1 (Same.refl _) ?_⟩
  have e : decide (V.str x = V.str y) = decide (x = y) := by simp
  rw [e]
  exact .bl _
theorem ev_neS {x y : Str} (ha : Ev ta σ H (Dd (.str x))) (hb : Ev tb σ H (Dd (.str y))) : Ev (tOp rNe ta tb) σ H (Dd (.bool (!decide (x = y)))) := ev_op ha (stb_d _) hb fun u v H1 s p1 p2 Q q => by
  rw [rp_str p1, rp_str p2]
  refine ⟨rfl, q _ H1 (Same.refl _) ?_⟩
  have e : decide (V.str x = V.str y) = decide (x = y) := by simp
  rw [e]
  exact .bl _
theorem ev_ltS {x y : Str} (ha : Ev ta σ H (Dd (.str x))) (hb : Ev tb σ H (Dd (.str y))) : Ev (tOp (fun x y H Q => ∃ i j, x = .str i ∧ y = .str j ∧ Q (.bl (decide (i.cps.toList < j.cps.toList))) H) ta tb) σ H (Dd (.bool (decide (x.cps.toList < y.cps.toList)))) :=
  ev_op ha (stb_d _) hb fun u v H1 s p1 p2 Q q => ⟨x, y, rp_str p1, rp_str p2, q _ H1 (Same.refl _) (.bl _)⟩
theorem ev_addS {x y : Str} (ha : Ev ta σ H (Dd (.str x))) (hb : Ev tb σ H (Dd (.str y))) (hz : x.length + y.length ≤ 100000) : Ev (tOp (fun x y H Q => ∃ i j, x = .str i ∧ y = .str j ∧ i.length + j.length ≤ sizeLine ∧ Q (.str (i ++ j)) H) ta tb) σ H (Dd (.str (x ++ y))) :=
  ev_op ha (stb_d _) hb fun u v H1 s p1 p2 Q q => ⟨x, y, rp_str p1, rp_str p2, Nat.le_trans hz (by decide), q _ H1 (Same.refl _) (.str _)⟩
theorem inV_strs {x : Str} : ∀ {xs : List Str}, inV (.str x) (xs.map V.str) = decide (x ∈ xs)
  | [] => rfl
  | y :: ys => by
    show (eqV (.str y) (.str x) || inV (.str x) (ys.map V.str)) = decide (x ∈ y :: ys)
    rw [inV_strs (xs := ys)]
    show ((y == x) || decide (x ∈ ys)) = _
    by_cases e : y = x
    · subst e; simp
    · have e' : ¬ x = y := fun z => e z.symm
      simp [e, e']
theorem flat_all (xs : List Str) : (xs.map V.str).all flatV = true := by
  rw [List.all_map, List.all_eq_true]
  intro _ _
  rfl
/-- a word of a list or tuple of texts -/
def Sq (K : PySem.W.Frag) (xs : List Str) : VP := fun v H => ∃ p, v = .ref p ∧ (SqL K H p (xs.map V.str) ∨ SqT K H p (xs.map V.str))
theorem sq_d {xs : List Str} {v : V} (h : Rp H v (tupS xs)) : Sq K xs v H := by
  obtain ⟨a, e, q⟩ := rp_tupS h
  exact ⟨a, e, .inr (SqT.of q)⟩
theorem sq_l {xs : List Str} {v : V} (h : Ls (xs.map PyData.str) v H) : Sq K xs v H := by
  obtain ⟨p, ys, e, q, r⟩ := h
  rw [rp_tupS_all.mp r] at q
  exact ⟨p, e, .inl (SqL.of q)⟩
theorem ov_in {x : Str} {xs : List Str} {neg : Bool} (hb : ∀ v H, B v H → Sq K xs v H) : OvR (rIn K neg) (Dd (.str x)) B H (Dd (.bool (if neg then !decide (x ∈ xs) else decide (x ∈ xs)))) := fun u v H1 s p1 p2 Q q => by
  obtain ⟨p, e, h⟩ := hb v H1 p2
  rw [rp_str p1]
  refine ⟨p, _, e, h, rfl, flat_all xs, q _ H1 (Same.refl _) ?_⟩
  rw [inV_strs]
  exact .bl _
theorem ev_in {x : Str} {xs : List Str} (ha : Ev ta σ H (Dd (.str x))) (hb : Ev tb σ H B) (h : ∀ v H, B v H → Sq K xs v H) : Ev (tOp (rIn K false) ta tb) σ H (Dd (.bool (decide (x ∈ xs)))) := ev_op ha (stb_d _) hb (ov_in (neg := false) h)
theorem ev_notIn {x : Str} {xs : List Str} (ha : Ev ta σ H (Dd (.str x))) (hb : Ev tb σ H B) (h : ∀ v H, B v H → Sq K xs v H) : Ev (tOp (rIn K true) ta tb) σ H (Dd (.bool (!decide (x ∈ xs)))) := ev_op ha (stb_d _) hb (ov_in (neg := true) h)
theorem ev_inT {x : Str} {xs : List Str} (ha : Ev ta σ H (Dd (.str x))) (hb : Ev tb σ H (Dd (tupS xs))) : Ev (tOp (rIn K false) ta tb) σ H (Dd (.bool (decide (x ∈ xs)))) := ev_in ha hb fun _ _ h => sq_d h
theorem ev_notInT {x : Str} {xs : List Str} (ha : Ev ta σ H (Dd (.str x))) (hb : Ev tb σ H (Dd (tupS xs))) : Ev (tOp (rIn K true) ta tb) σ H (Dd (.bool (!decide (x ∈ xs)))) := ev_notIn ha hb fun _ _ h => sq_d h
theorem ev_inL {x : Str} {xs : List Str} (ha : Ev ta σ H (Dd (.str x))) (hb : Ev tb σ H (Ls (xs.map PyData.str))) : Ev (tOp (rIn K false) ta tb) σ H (Dd (.bool (decide (x ∈ xs)))) := ev_in ha hb fun _ _ h => sq_l h
theorem ev_notInL {x : Str} {xs : List Str} (ha : Ev ta σ H (Dd (.str x))) (hb : Ev tb σ H (Ls (xs.map PyData.str))) : Ev (tOp (rIn K true) ta tb) σ H (Dd (.bool (!decide (x ∈ xs)))) := ev_notIn ha hb fun _ _ h => sq_l h
/-- == of data -/
theorem dp_ls {v : V} (h : Ls ds v H) : Dp K H v (.list ds) := by
  obtain ⟨p, xs, e, q, r⟩ := h
  rw [e]
  exact .lst (SqL.of q) (RpAll.dp _ _ r)
theorem ev_eqD {e : PyData} (ha : Ev ta σ H A) (st : Stb A) (hb : Ev tb σ H B) (h1 : ∀ v H, A v H → Dp K H v d) (h2 : ∀ v H, B v H → Dp K H v e) (s1 : SeqAt.shaped d = true) (s2 : SeqAt.shaped e = true) :
    Ev (tOp (rEqD K) ta tb) σ H (Dd (.bool (PyData.eqv d e))) := ev_op ha st hb fun u v H1 s p1 p2 Q q => ⟨d, e, h1 _ _ p1, h2 _ _ p2, s1, s2, q _ H1 (Same.refl _) (.bl _)⟩
theorem ev_neD {e : PyData} (ha : Ev ta σ H A) (st : Stb A) (hb : Ev tb σ H B) (h1 : ∀ v H, A v H → Dp K H v d) (h2 : ∀ v H, B v H → Dp K H v e) (s1 : SeqAt.shaped d = true) (s2 : SeqAt.shaped e = true) :
    Ev (tOp (rNeD K) ta tb) σ H (Dd (.bool (!PyData.eqv d e))) := ev_op ha st hb fun u v H1 s p1 p2 Q q => ⟨d, e, h1 _ _ p1, h2 _ _ p2, s1, s2, q _ H1 (Same.refl _) (.bl _)⟩
/-- items -/
theorem ev_ixT {j : Nat} {i : Int} (ha : Ev ta σ H (Dd (.tuple ds))) (hb : Ev tb σ H (Dd (.int i))) (hi : i = (j : Int)) (h : ds[j]? = some d) : Ev (tOp (rIxT K) ta tb) σ H (Dd d) := ev_op ha (stb_d _) hb fun u v H1 s p1 p2 Q q => by
  obtain ⟨a, xs, e, h1, h2⟩ := rp_tup p1
  obtain ⟨w, hw, rw'⟩ := h2.get h
  exact ⟨a, xs, i, w, e, rp_int p2, SqT.of h1, at_of hi hw, q _ H1 (Same.refl _) rw'⟩
theorem ev_ixL {j : Nat} {i : Int} (ha : Ev ta σ H (Ls ds)) (hb : Ev tb σ H (Dd (.int i))) (hi : i = (j : Int)) (h : ds[j]? = some d) : Ev (tOp (rIxL K) ta tb) σ H (Dd d) := ev_op ha (stb_l _) hb fun u v H1 s p1 p2 Q q => by
  obtain ⟨a, xs, e, h1, h2⟩ := p1
  obtain ⟨w, hw, rw'⟩ := h2.get h
  exact ⟨a, xs, i, w, e, rp_int p2, SqL.of h1, at_of hi hw, q _ H1 (Same.refl _) rw'⟩
theorem atI_lastV {xs : List V} {v : V} (h : xs.getLast? = some v) : atI xs (-1) = some v := by
  obtain ⟨ys, rfl⟩ := List.getLast?_eq_some_iff.mp h
  exact atI_last ys v
theorem rpAll_last {vs : List V} {ds : List PyData} {d : PyData} (h : RpAll H vs ds) (e : ds.getLast? = some d) : ∃ v, vs.getLast? = some v ∧ Rp H v d := by
  rw [List.getLast?_eq_getElem?] at e ⊢
  rw [h.length]
  exact h.get e
theorem ev_lastL (ha : Ev ta σ H (Ls ds)) (hb : Ev tb σ H (Dd (.int (-1)))) (h : ds.getLast? = some d) : Ev (tOp (rIxL K) ta tb) σ H (Dd d) := ev_op ha (stb_l _) hb fun u v H1 s p1 p2 Q q => by
  obtain ⟨a, xs, e, h1, h2⟩ := p1
  obtain ⟨w, hw, rw'⟩ := rpAll_last h2 h
  exact ⟨a, xs, _, w, e, rp_int p2, SqL.of h1, atI_lastV hw, q _ H1 (Same.refl _) rw'⟩
/-- tuple + tuple -/
theorem ev_catT {es : List PyData} (ha : Ev ta σ H (Dd (.tuple ds))) (hb : Ev tb σ H (Dd (.tuple es))) (hz : ds.length + es.length ≤ 100000) : Ev (tOp (rCatA K) ta tb) σ H (Dd (.tuple (ds ++ es))) := ev_op ha (stb_d _) hb fun u v H1 s p1 p2 Q q => by
  obtain ⟨a, xs, e, h1, h2⟩ := rp_tup p1
  obtain ⟨b, ys, e', h1', h2'⟩ := rp_tup p2
  refine ⟨a, b, xs, ys, e, e', SqT.of h1, SqT.of h1', by rw [h2.length, h2'.length]; exact Nat.le_trans hz (by decide), fun z => ?_, fun _ z => ?_, fun _ _ p hp => ?_⟩
  · subst z
    cases h2
    exact q _ H1 (Same.refl _) (.tup h1' h2')
  · subst z
    cases h2'
    rw [List.append_nil] at q
    exact q _ H1 (Same.refl _) (.tup h1 h2)
  · exact q _ _ (same_new hp) (.tup upd_same ((h2.append h2').sm (same_new hp)))
/-- list + list -/
theorem ev_catL {es : List PyData} (ha : Ev ta σ H (Ls ds)) (hb : Ev tb σ H (Ls es)) (hz : ds.length + es.length ≤ 100000) : Ev (tOp rCat ta tb) σ H (Ls (ds ++ es)) := ev_op ha (stb_l _) hb fun u v H1 s p1 p2 Q q => by
  obtain ⟨a, xs, e, h1, h2⟩ := p1
  obtain ⟨b, ys, e', h1', h2'⟩ := p2
  exact ⟨a, b, xs, ys, e, e', h1, h1', by rw [h2.length, h2'.length]; exact Nat.le_trans hz (by decide), fun p hp => q _ _ (same_new hp) ⟨p, _, rfl, upd_same, (h2.append h2').sm (same_new hp)⟩⟩
/-! built-in calls -/
theorem cv_tupL : CvR (rTupO K) [Ls ds] H (Dd (.tuple ds)) := by
  rintro vs H1 s ⟨v, r, rfl, ⟨p, xs, rfl, h, ra⟩, rfl⟩ Q q
  exact ⟨p, xs, rfl, .inl ⟨SqL.of h, fun l hl => q _ _ (same_new hl) (.tup upd_same (ra.sm (same_new hl)))⟩⟩
theorem ev_tupL (h : Ev te σ H (Ls ds)) : Ev (tCB (rTupO K) (tCons te tNil)) σ H (Dd (.tuple ds)) := ev_cb (ea_l h ea_nil) cv_tupL
theorem ev_listT (h : Ev te σ H (Dd (.tuple ds))) : Ev (tCB (rLstO K) (tCons te tNil)) σ H (Ls ds) := by
  refine ev_cb (ea_d h ea_nil) ?_
  rintro vs H1 s ⟨v, r, rfl, p1, rfl⟩ Q q
  obtain ⟨a, xs, rfl, h1, h2⟩ := rp_tup p1
  exact ⟨a, xs, rfl, .inr (SqT.of h1), fun l hl => q _ _ (same_new hl) ⟨l, xs, rfl, upd_same, h2.sm (same_new hl)⟩⟩
theorem ev_len {n : Nat} (h : Ev te σ H A) (k : ∀ v H, A v H → LenV K v H n) (st : Stb A) : Ev (tCB (rLenA K) (tCons te tNil)) σ H (Dd (.int n)) := by
  refine ev_cb (ea_cons h st ea_nil) ?_
  rintro vs H1 s ⟨v, r, rfl, p1, rfl⟩ Q q
  exact ⟨v, n, rfl, k v H1 p1, q _ H1 (Same.refl _) (.int _)⟩
theorem ev_lenT (h : Ev te σ H (Dd (.tuple ds))) : Ev (tCB (rLenA K) (tCons te tNil)) σ H (Dd (.int ds.length)) := ev_len h (fun v H1 p => by
  obtain ⟨a, xs, rfl, h1, h2⟩ := rp_tup p
  exact .inr ⟨xs, SqT.of h1, h2.length.symm⟩) (stb_d _)
theorem ev_lenL (h : Ev te σ H (Ls ds)) : Ev (tCB (rLenA K) (tCons te tNil)) σ H (Dd (.int ds.length)) := ev_len h (fun v H1 p => by
  obtain ⟨a, xs, rfl, h1, h2⟩ := p
  exact .inl ⟨xs, SqL.of h1, h2.length.symm⟩) (stb_l _)
theorem ev_lenS {x : Str} (h : Ev te σ H (Dd (.str x))) (hz : x.length ≤ 100000) : Ev (tCB (rLenA K) (tCons te tNil)) σ H (Dd (.int x.length)) := ev_len h (fun v H1 p => by
  rw [rp_str p]
  exact ⟨Nat.le_trans hz (by decide), rfl⟩) (stb_d _)
theorem rp_bools : ∀ {bs : List Bool} {vs : List V}, RpAll H vs (bs.map PyData.bool) → vs = bs.map V.bl
  | [], _, h => by cases h; rfl
  | b :: bs, _, h => by
    cases h with
    | cons h1 h2 => rw [rp_bl h1, rp_bools h2]; rfl
theorem ev_all {bs : List Bool} (h : Ev te σ H (Ls (bs.map PyData.bool))) : Ev (tCB (rAll K) (tCons te tNil)) σ H (Dd (.bool (bs.all id))) := by
  refine ev_cb (ea_l h ea_nil) ?_
  rintro vs H1 s ⟨v, r, rfl, ⟨p, xs, rfl, h1, ra⟩, rfl⟩ Q q
  refine ⟨p, bs, rfl, ?_, q _ H1 (Same.refl _) (.bl _)⟩
  rw [rp_bools ra] at h1
  exact SqL.of h1
theorem ev_isi {T U : String} {b : Bool} (h : Ev te σ H A) (st : Stb A) (k : ∀ v H, A v H → TyX K H v (.type T)) (e : kitB T U = some b) : Ev (tCB (rIsi K) (tCons te (tCons (tC (.ty U)) tNil))) σ H (Dd (.bool b)) := by
  refine ev_cb (ea_cons h st (ea_x ev_ty ea_nil)) ?_
  rintro vs H1 s ⟨v, r, rfl, p1, ⟨w, r2, rfl, rfl, rfl⟩⟩ Q q
  exact ⟨v, _, .type T, .type U, b, rfl, .ty U, k v H1 p1, kit_ty e, q _ H1 (Same.refl _) (.bl _)⟩
end
/-! ### statements -/
section
variable {K : PySem.W.Frag} {σ : L2.St} {H H' : Hp} {te ta tb tx : TE} {tt : TT} {P A B : VP} {D : Ends} {tu tw : TS} {v : V} {b : Bool}
theorem s_ret (h : Ev te σ H P) (k : ∀ v H1, Same H H1 → P v H1 → D.rt v H1) : tRet te D σ H := h H (Same.refl _) _ k
theorem s_set {i : Nat} (h : Ev te σ H P) (k : ∀ v H1, Same H H1 → P v H1 → D.nx (σ.set i (some v)) H1) : tAsg te (gName i) D σ H := h H (Same.refl _) _ k
theorem s_if (h : EvT tt σ H b) (h1 : b = true → ∀ H1, Same H H1 → tu D σ H1) (h2 : b = false → ∀ H1, Same H H1 → tw D σ H1) : tIfS tt tu tw D σ H := h H (Same.refl _) _ fun H1 s => by
  cases b with
  | true =>
    show tu D σ H1
    exact h1 rfl H1 s
  | false =>
    show tw D σ H1
    exact h2 rfl H1 s
theorem s_drop (h : Ev te σ H P) (k : ∀ v H1, Same H H1 → P v H1 → D.nx σ H1) : tDrop te D σ H := h H (Same.refl _) _ k
end
/-! ### comprehensions -/
section
variable {K : PySem.W.Frag} {σ : L2.St} {H H' : Hp} {te tl : TE} {tt : TT} {ds : List PyData}
/-- behind i turns the new list at D holds what they gave -/
def Cw (H : Hp) (ds : List PyData) (f : PyData → Bool) (g : PyData → PyData) (D : Addr) (i : Nat) (H' : Hp) : Prop := H D = none ∧ Same H H' ∧ ∃ ys, H' D = some (.lst ys) ∧ RpAll H' ys (((ds.take i).filter f).map g)
theorem take_succ {α : Type} {l : List α} {i : Nat} {x : α} (h : l[i]? = some x) : l.take (i + 1) = l.take i ++ [x] := by
  rw [List.take_succ, h] <;> rfl
theorem cw_turn {f : PyData → Bool} {g : PyData → PyData} {D : Addr} {i : Nat} {σ2 : L2.St} {d : PyData} (p : Cw H ds f g D i H') (hz : ds.length ≤ 50000) (hd : ds[i]? = some d) (ht : EvT tt σ2 H' (f d)) (he : f d = true → Ev te σ2 H' (Dd (g d))) :
    tt σ2 H' fun b H3 => if b = true then te σ2 H3 fun y H4 => ∃ acc, H4 D = some (.lst acc) ∧ acc.length < sizeLine ∧ Cw H ds f g D (i + 1) (upd H4 D (.lst (acc ++ [y]))) else Cw H ds f g D (i + 1) H3 := by
  obtain ⟨p1, p2, ys, p3, p4⟩ := p
  have nt : ∀ (H5 : Hp), H5 D = some (.lst ys) → ∀ xs, H5 D ≠ some (.tup xs) := fun H5 e xs z => by rw [e] at z; cases z
  refine ht H' (Same.refl _) _ fun H3 s3 => ?_
  cases hf : f d with
  | true =>
    show te σ2 H3 fun y H4 => ∃ acc, H4 D = some (.lst acc) ∧ acc.length < sizeLine ∧ Cw H ds f g D (i + 1) (upd H4 D (.lst (acc ++ [y])))
    refine he hf H3 s3 _ fun y H4 s4 py => ?_
    have e4 := s4 _ _ (s3 _ _ p3)
    have tk : Tk H4 (upd H4 D (.lst (ys ++ [y]))) := tk_upd (nt H4 e4)
    refine ⟨ys, e4, ?_, p1, same_mut ((p2.trans s3).trans s4) p1, ys ++ [y], upd_same, ?_⟩
    · have := p4.length
      rw [this, List.length_map]
      have h1 := List.length_filter_le f (ds.take i)
      have h2 : (ds.take i).length ≤ ds.length := by rw [List.length_take]; omega
      exact Nat.lt_of_le_of_lt (Nat.le_trans (Nat.le_trans h1 h2) hz) (by decide)
    · rw [take_succ hd, List.filter_append, List.map_append]
      refine RpAll.append ((p4.sm (s3.trans s4)).up tk) ?_
      rw [List.filter_cons, if_pos hf]
      exact .one (Rp.up py tk)
  | false =>
    show Cw H ds f g D (i + 1) H3
    refine ⟨p1, p2.trans s3, ys, s3 _ _ p3, ?_⟩
    rw [take_succ hd, List.filter_append, List.map_append, List.filter_cons, if_neg (by rw [hf]; decide)]
    simpa using p4.sm s3
/-- over a tuple of data -/
theorem ev_lcT {j : Nat} {vs : List Nat} (f : PyData → Bool) (g : PyData → PyData) (h : Ev tl σ H (Dd (.tuple ds))) (hz : ds.length ≤ 50000) (hw : ∀ v, wipe ((wipe σ vs).set j (some v)) vs = wipe σ vs)
    (turn : ∀ d ∈ ds, ∀ v H1, Same H H1 → Rp H1 v d → EvT tt ((wipe σ vs).set j (some v)) H1 (f d) ∧ (f d = true → Ev te ((wipe σ vs).set j (some v)) H1 (Dd (g d)))) :
    Ev (tLc (iTup K tl) (gName j) tt te vs) σ H (Ls ((ds.filter f).map g)) := fun H0 s0 Q q => h H0 s0 _ fun v H1 s1 p => by
  obtain ⟨a, xs, rfl, h1, h2⟩ := rp_tup p
  refine ⟨a, rfl, ⟨xs, SqT.of h1⟩, fun D hD => lc_tup (K := K) (a := a) (xs := xs) (Cw H1 ds f g D) ⟨hD, same_new hD, [], upd_same, by rw [List.take_zero]; exact .nil⟩ (fun i H' _ p => SqT.of (p.2.1 a _ h1)) (fun i x H' hi p => ⟨hw x, ?_⟩) (fun H' p => ?_)⟩
  · obtain ⟨d, hd, rd⟩ := h2.at_ hi
    obtain ⟨t1, t2⟩ := turn d (List.mem_of_getElem? hd) x H' ((s0.trans s1).trans p.2.1) (rd.sm p.2.1)
    exact cw_turn p hz hd t1 t2
  · obtain ⟨p1, p2, ys, p3, p4⟩ := p
    refine q _ H' (s1.trans p2) ⟨D, ys, rfl, p3, ?_⟩
    rw [List.take_of_length_le (by rw [h2.length]; exact Nat.le_refl _)] at p4
    exact p4
/-- over a list of data -/
theorem ev_lcL {j : Nat} {vs : List Nat} (f : PyData → Bool) (g : PyData → PyData) (h : Ev tl σ H (Ls ds)) (hz : ds.length ≤ 50000) (hw : ∀ v, wipe ((wipe σ vs).set j (some v)) vs = wipe σ vs)
    (turn : ∀ d ∈ ds, ∀ v H1, Same H H1 → Rp H1 v d → EvT tt ((wipe σ vs).set j (some v)) H1 (f d) ∧ (f d = true → Ev te ((wipe σ vs).set j (some v)) H1 (Dd (g d)))) :
    Ev (tLc (iList K tl) (gName j) tt te vs) σ H (Ls ((ds.filter f).map g)) := fun H0 s0 Q q => h H0 s0 _ fun v H1 s1 p => by
  obtain ⟨a, xs, rfl, h1, h2⟩ := p
  refine ⟨a, rfl, ⟨xs, SqL.of h1⟩, fun D hD => lc_list (K := K) (a := a) (xs := xs) (Cw H1 ds f g D) ⟨hD, same_new hD, [], upd_same, by rw [List.take_zero]; exact .nil⟩ (fun i H' _ p => SqL.of (p.2.1 a _ h1)) (fun i x H' hi p => ⟨hw x, ?_⟩) (fun H' p => ?_)⟩
  · obtain ⟨d, hd, rd⟩ := h2.at_ hi
    obtain ⟨t1, t2⟩ := turn d (List.mem_of_getElem? hd) x H' ((s0.trans s1).trans p.2.1) (rd.sm p.2.1)
    exact cw_turn p hz hd t1 t2
  · obtain ⟨p1, p2, ys, p3, p4⟩ := p
    refine q _ H' (s1.trans p2) ⟨D, ys, rfl, p3, ?_⟩
    rw [List.take_of_length_le (by rw [h2.length]; exact Nat.le_refl _)] at p4
    exact p4
end
/-! the same over texts -/
section
variable {K : PySem.W.Frag} {σ : L2.St} {H H' : Hp} {te tl : TE} {tt : TT} {xs : List Str}
def onS (f : Str → Bool) : PyData → Bool
  | .str x => f x
  | _ => false
def ofS (g : Str → PyData) : PyData → PyData
  | .str x => g x
  | d => d
theorem filter_onS (f : Str → Bool) (g : Str → PyData) : ∀ xs : List Str, ((xs.map PyData.str).filter (onS f)).map (ofS g) = (xs.filter f).map g
  | [] => rfl
  | x :: xs => by
    have ih := filter_onS f g xs
    rw [List.map_cons, List.filter_cons, List.filter_cons]
    show List.map (ofS g) (if f x = true then _ else _) = _
    split
    · rw [List.map_cons, List.map_cons, ih]
      rfl
    · exact ih
theorem ev_lcTS {j : Nat} {vs : List Nat} (f : Str → Bool) (g : Str → PyData) (h : Ev tl σ H (Dd (tupS xs))) (hz : xs.length ≤ 50000) (hw : ∀ v, wipe ((wipe σ vs).set j (some v)) vs = wipe σ vs)
    (turn : ∀ x ∈ xs, ∀ H1, Same H H1 → EvT tt ((wipe σ vs).set j (some (.str x))) H1 (f x) ∧ (f x = true → Ev te ((wipe σ vs).set j (some (.str x))) H1 (Dd (g x)))) :
    Ev (tLc (iTup K tl) (gName j) tt te vs) σ H (Ls ((xs.filter f).map g)) := by
  rw [← filter_onS f g xs]
  refine ev_lcT (onS f) (ofS g) h (by rw [List.length_map]; exact hz) hw fun d hd v H1 s r => ?_
  obtain ⟨x, hx, rfl⟩ := List.mem_map.mp hd
  rw [rp_str r]
  exact turn x hx H1 s
theorem ev_lcLS {j : Nat} {vs : List Nat} (f : Str → Bool) (g : Str → PyData) (h : Ev tl σ H (Ls (xs.map PyData.str))) (hz : xs.length ≤ 50000) (hw : ∀ v, wipe ((wipe σ vs).set j (some v)) vs = wipe σ vs)
    (turn : ∀ x ∈ xs, ∀ H1, Same H H1 → EvT tt ((wipe σ vs).set j (some (.str x))) H1 (f x) ∧ (f x = true → Ev te ((wipe σ vs).set j (some (.str x))) H1 (Dd (g x)))) :
    Ev (tLc (iList K tl) (gName j) tt te vs) σ H (Ls ((xs.filter f).map g)) := by
  rw [← filter_onS f g xs]
  refine ev_lcL (onS f) (ofS g) h (by rw [List.length_map]; exact hz) hw fun d hd v H1 s r => ?_
  obtain ⟨x, hx, rfl⟩ := List.mem_map.mp hd
  rw [rp_str r]
  exact turn x hx H1 s
theorem ev_varS {i : Nat} {x : Str} (h : σ[i]? = some (some (.str x))) : Ev (tVar i) σ H (Dd (.str x)) := ev_varD h (.str x)
theorem ev_varI {i : Nat} {x : Int} (h : σ[i]? = some (some (.int x))) : Ev (tVar i) σ H (Dd (.int x)) := ev_varD h (.int x)
/-- over the signs of a text -/
theorem ev_lcSg {j : Nat} {vs : List Nat} {z : Str} (f : Nat → Bool) (h : Ev tl σ H (Dd (.str z))) (hz : z.cps.size ≤ 50000) (hw : ∀ v, wipe ((wipe σ vs).set j (some v)) vs = wipe σ vs)
    (turn : ∀ c ∈ z.cps.toList, ∀ H1, Same H H1 → Ev te ((wipe σ vs).set j (some (.str ⟨#[c]⟩))) H1 (Dd (.bool (f c)))) :
    Ev (tLc (iStr tl) (gName j) tYes te vs) σ H (Ls ((z.cps.toList.map f).map PyData.bool)) := fun H0 s0 Q q => h H0 s0 _ fun v H1 s1 p => by
  refine ⟨z, rp_str p, fun D hD => ?_⟩
  refine ⟨fun i m H' => m = z.cps.size - i ∧ i ≤ z.cps.size ∧ H1 D = none ∧ Same H1 H' ∧ ∃ ys, H' D = some (.lst ys) ∧ RpAll H' ys (((z.cps.toList.take i).map f).map PyData.bool), ⟨z.cps.size, by simp, Nat.zero_le _, hD, same_new hD, [], upd_same, by rw [List.take_zero]; exact .nil⟩, ?_⟩
  rintro i m H' ⟨rfl, hi, p1, p2, ys, p3, p4⟩
  by_cases hlt : i < z.cps.size
  · refine .inr ⟨hlt, fun H'' => i + 1 ≤ z.cps.size ∧ H1 D = none ∧ Same H1 H'' ∧ ∃ ys, H'' D = some (.lst ys) ∧ RpAll H'' ys (((z.cps.toList.take (i + 1)).map f).map PyData.bool), fun H'' hh => ⟨z.cps.size - (i + 1), by omega, rfl, hh.1, hh.2⟩, ?_⟩
    rintro x H2 ⟨rfl, c, hc, rfl⟩
    have hcl : z.cps.toList[i]? = some c := by rw [Array.getElem?_toList]; exact hc
    refine ⟨hw _, ?_⟩
    show te _ _ _
    refine turn c (List.mem_of_getElem? hcl) H2 ((s0.trans s1).trans p2) H2 (Same.refl _) _ fun y H4 s4 py => ?_
    have e4 := s4 _ _ p3
    have tk : Tk H4 (upd H4 D (.lst (ys ++ [y]))) := tk_upd fun xs zz => by rw [e4] at zz; cases zz
    refine ⟨ys, e4, ?_, hlt, p1, same_mut (p2.trans s4) p1, ys ++ [y], upd_same, ?_⟩
    · have := p4.length
      rw [this, List.length_map, List.length_map, List.length_take, Array.length_toList]
      exact Nat.lt_of_le_of_lt (Nat.le_trans (Nat.min_le_right _ _) hz) (by decide)
    · rw [take_succ hcl, List.map_append, List.map_append]
      exact RpAll.append ((p4.sm s4).up tk) (.one (Rp.up py tk))
  · have e : i = z.cps.size := by omega
    subst e
    refine .inl ⟨Nat.le_refl _, q _ H' (s1.trans p2) ⟨D, ys, rfl, p3, ?_⟩⟩
    rw [List.take_of_length_le (by rw [Array.length_toList]; exact Nat.le_refl _)] at p4
    exact p4
theorem ev_inSign {ta tb : TE} {c : Nat} {z : Str} (ha : Ev ta σ H (Dd (.str ⟨#[c]⟩))) (hb : Ev tb σ H (Dd (.str z))) :
    Ev (tOp (fun x y H Q => ∃ (c : Nat) (z : Str), x = .str ⟨#[c]⟩ ∧ y = .str z ∧ Q (.bl (decide (c ∈ z.cps.toList))) H) ta tb) σ H (Dd (.bool (decide (c ∈ z.cps.toList)))) :=
  ev_op ha (stb_d _) hb fun u v H1 s p1 p2 Q q => ⟨c, z, rp_str p1, rp_str p2, q _ H1 (Same.refl _) (.bl _)⟩
end
/-! zip of two tuples, of two lists -/
section
variable {K : PySem.W.Frag} {σ : L2.St} {H H' : Hp} {te tl : TE} {tt : TT} {ds es : List PyData} {ta : TA}
theorem walk_zipT {a b : Addr} {xs ys : List V} {n : Nat} (hn : n = min xs.length ys.length) : Walk (RZ.ItzT K a b) n (fun H => SqT K H a xs ∧ SqT K H b ys) (YPair (fun i => xs[i]?) (fun i => ys[i]?)) := by
  subst hn
  refine ⟨fun i H hi q => ⟨xs, ys, xs[i]'(by omega), ys[i]'(by omega), q.1, q.2, List.getElem?_eq_getElem (by omega), List.getElem?_eq_getElem (by omega)⟩, fun H q => ⟨xs, ys, q.1, q.2, by omega⟩, ?_⟩
  rintro i H v H' _ q ⟨T, x, z, h1, h2, h3, h4, h5⟩
  exact ⟨T, x, z, h1, h2, h3, h4 xs q.1, h5 ys q.2⟩
/-- behind i turns -/
def Cz (H : Hp) (ps : List (PyData × PyData)) (f : PyData × PyData → Bool) (g : PyData × PyData → PyData) (D : Addr) (i : Nat) (H' : Hp) : Prop := H D = none ∧ Same H H' ∧ ∃ ys, H' D = some (.lst ys) ∧ RpAll H' ys (((ps.take i).filter f).map g)
theorem cz_turn {ps : List (PyData × PyData)} {f : PyData × PyData → Bool} {g : PyData × PyData → PyData} {D : Addr} {i : Nat} {σ2 : L2.St} {d : PyData × PyData} (p : Cz H ps f g D i H') (hz : ps.length ≤ 50000) (hd : ps[i]? = some d) (ht : EvT tt σ2 H' (f d)) (he : f d = true → Ev te σ2 H' (Dd (g d))) :
    tt σ2 H' fun b H3 => if b = true then te σ2 H3 fun y H4 => ∃ acc, H4 D = some (.lst acc) ∧ acc.length < sizeLine ∧ Cz H ps f g D (i + 1) (upd H4 D (.lst (acc ++ [y]))) else Cz H ps f g D (i + 1) H3 := by
  obtain ⟨p1, p2, ys, p3, p4⟩ := p
  refine ht H' (Same.refl _) _ fun H3 s3 => ?_
  cases hf : f d with
  | true =>
    show te σ2 H3 fun y H4 => ∃ acc, H4 D = some (.lst acc) ∧ acc.length < sizeLine ∧ Cz H ps f g D (i + 1) (upd H4 D (.lst (acc ++ [y])))
    refine he hf H3 s3 _ fun y H4 s4 py => ?_
    have e4 := s4 _ _ (s3 _ _ p3)
    have tk : Tk H4 (upd H4 D (.lst (ys ++ [y]))) := tk_upd fun xs z => by rw [e4] at z; cases z
    refine ⟨ys, e4, ?_, p1, same_mut ((p2.trans s3).trans s4) p1, ys ++ [y], upd_same, ?_⟩
    · have := p4.length
      rw [this, List.length_map]
      have h1 := List.length_filter_le f (ps.take i)
      have h2 : (ps.take i).length ≤ ps.length := by rw [List.length_take]; omega
      exact Nat.lt_of_le_of_lt (Nat.le_trans (Nat.le_trans h1 h2) hz) (by decide)
    · rw [take_succ hd, List.filter_append, List.map_append]
      refine RpAll.append ((p4.sm (s3.trans s4)).up tk) ?_
      rw [List.filter_cons, if_pos hf]
      exact .one (Rp.up py tk)
  | false =>
    show Cz H ps f g D (i + 1) H3
    refine ⟨p1, p2.trans s3, ys, s3 _ _ p3, ?_⟩
    rw [take_succ hd, List.filter_append, List.map_append, List.filter_cons, if_neg (by rw [hf]; decide)]
    simpa using p4.sm s3
theorem zip_get {α β : Type} : ∀ {xs : List α} {ys : List β} {i : Nat} {x : α} {y : β}, xs[i]? = some x → ys[i]? = some y → (xs.zip ys)[i]? = some (x, y)
  | [], _, i, _, _, h, _ => by simp at h
  | _ :: _, [], i, _, _, _, h => by simp at h
  | a :: xs, b :: ys, 0, x, y, h, h' => by
    simp at h h'
    subst h h'
    rfl
  | a :: xs, b :: ys, i + 1, x, y, h, h' => zip_get (xs := xs) (ys := ys) (i := i) (by simpa using h) (by simpa using h')
/-- one turn's targets: the new pair is taken apart -/
theorem zip_turn {Qz : L2.St → Hp → Prop} {T : Addr} {x y : V} {i j : Nat} (h : Qz ((σ.set i (some x)).set j (some y)) (upd H T (.tup [x, y]))) :
    gTup K 2 (gCons (gName i) (gCons (gName j) gNil)) (.ref T) σ (upd H T (.tup [x, y])) Qz :=
  ⟨T, [x, y], rfl, SqT.of upd_same, rfl, x, [y], rfl, y, [], rfl, rfl, h⟩
theorem ev_lcZ {A B : VP} {i j : Nat} {vs : List Nat} (f : PyData × PyData → Bool) (g : PyData × PyData → PyData) (h : EvA ta σ H [A, B])
    (hAB : (A = Dd (.tuple ds) ∧ B = Dd (.tuple es)) ∨ (A = Ls ds ∧ B = Ls es)) (hz : ds.length ≤ 50000) (hw : ∀ v u, wipe (((wipe σ vs).set i (some v)).set j (some u)) vs = wipe σ vs)
    (turn : ∀ d e, (d, e) ∈ ds.zip es → ∀ v u H1, Same H H1 → Rp H1 v d → Rp H1 u e → EvT tt (((wipe σ vs).set i (some v)).set j (some u)) H1 (f (d, e)) ∧ (f (d, e) = true → Ev te (((wipe σ vs).set i (some v)).set j (some u)) H1 (Dd (g (d, e))))) :
    Ev (tLc (RZ.iZipA K ta) (gTup K 2 (gCons (gName i) (gCons (gName j) gNil))) tt te vs) σ H (Ls (((ds.zip es).filter f).map g)) := fun H0 s0 Q q => h H0 s0 _ fun ws H1 s1 p => by
  obtain ⟨v, r, rfl, pA, u, r2, rfl, pB, rfl⟩ := p
  have hzz : (ds.zip es).length ≤ 50000 := by rw [List.length_zip]; omega
  -- the loop, whatever is walked
  have core : ∀ (J : It) (xs ys : List V) (G : Hp → Prop), Walk J (min xs.length ys.length) G (YPair (fun i => xs[i]?) (fun i => ys[i]?)) → G H1 → (∀ H2, Same H1 H2 → G H2) → RpAll H1 xs ds → RpAll H1 ys es →
      ∀ D, H1 D = none → ∃ W : Nat → Nat → Hp → Prop, (∃ m, W 0 m (upd H1 D (.lst []))) ∧ ∀ i' m H, W i' m H →
      (J.stop i' H ∧ Q (.ref D) H) ∨ (J.go i' H ∧ ∃ Nx : Hp → Prop, (∀ H', Nx H' → ∃ m', m' < m ∧ W (i' + 1) m' H') ∧ ∀ x H', J.yld i' H x H' → gTup K 2 (gCons (gName i) (gCons (gName j) gNil)) x (wipe σ vs) H' fun σ2 H2 => wipe σ2 vs = wipe σ vs ∧ tt σ2 H2 fun b H3 =>
        if b = true then te σ2 H3 fun y H4 => ∃ acc, H4 D = some (.lst acc) ∧ acc.length < sizeLine ∧ Nx (upd H4 D (.lst (acc ++ [y]))) else Nx H3) := by
    intro J xs ys G w g1 gs rx ry D hD
    refine lc_it w (Cz H1 (ds.zip es) f g D) ⟨hD, same_new hD, [], upd_same, by rw [List.take_zero]; exact .nil⟩ (fun i' H' _ p => gs H' p.2.1) (fun i' x H' H'' hi p y => ?_) (fun H' p => ?_)
    · obtain ⟨T, a, b, rfl, hT, rfl, ha, hb⟩ := y
      obtain ⟨d, hd, rd⟩ := rx.at_ ha
      obtain ⟨e, he, re⟩ := ry.at_ hb
      have sT : Same H' (upd H' T (.tup [a, b])) := same_new hT
      have hde := zip_get hd he
      obtain ⟨t1, t2⟩ := turn d e (List.mem_of_getElem? hde) a b _ (((s0.trans s1).trans p.2.1).trans sT) (rd.sm (p.2.1.trans sT)) (re.sm (p.2.1.trans sT))
      refine zip_turn ⟨hw a b, cz_turn (d := (d, e)) ⟨p.1, p.2.1.trans sT, ?_⟩ hzz hde t1 t2⟩
      obtain ⟨_, _, ys', p3, p4⟩ := p
      exact ⟨ys', sT _ _ p3, p4.sm sT⟩
    · obtain ⟨p1, p2, ys', p3, p4⟩ := p
      refine q _ H' (s1.trans p2) ⟨D, ys', rfl, p3, ?_⟩
      rw [List.take_of_length_le (by rw [List.length_zip, rx.length, ry.length]; exact Nat.le_refl _)] at p4
      exact p4
  rcases hAB with ⟨rfl, rfl⟩ | ⟨rfl, rfl⟩
  · obtain ⟨a, xs, rfl, h1, h2⟩ := rp_tup pA
    obtain ⟨b, ys, rfl, h1', h2'⟩ := rp_tup pB
    exact ⟨a, b, xs, ys, rfl, .inr ⟨SqT.of h1, SqT.of h1', core _ xs ys _ (walk_zipT rfl) ⟨SqT.of h1, SqT.of h1'⟩ (fun H2 s => ⟨SqT.of (s _ _ h1), SqT.of (s _ _ h1')⟩) h2 h2'⟩⟩
  · obtain ⟨a, xs, rfl, h1, h2⟩ := pA
    obtain ⟨b, ys, rfl, h1', h2'⟩ := pB
    exact ⟨a, b, xs, ys, rfl, .inl ⟨SqL.of h1, SqL.of h1', core _ xs ys _ (walk_zip rfl) ⟨SqL.of h1, SqL.of h1'⟩ (fun H2 s => ⟨SqL.of (s _ _ h1), SqL.of (s _ _ h1')⟩) h2 h2'⟩⟩
/-- slices: data cut at places -/
def cutD (ds : List PyData) (lo hi : Option Int) : List PyData := (ds.drop (HT.sIx ds.length 0 lo)).take (HT.sIx ds.length ds.length hi - HT.sIx ds.length 0 lo)
theorem rp_cut {xs : List V} (h : RpAll H xs ds) (lo hi : Option Int) : RpAll H (cutV xs lo hi) (cutD ds lo hi) := by
  unfold cutV cutD
  rw [h.length]
  exact (h.drop _).take _
def EvO (to : TO) (σ : L2.St) (H : Hp) (o : Option Int) : Prop := ∀ H1, Same H H1 → ∀ Q : Option Int → Hp → Prop, (∀ H2, Same H1 H2 → Q o H2) → to σ H1 Q
theorem eo_none : EvO tNoPart σ H none := fun H1 _ Q q => q H1 (Same.refl _)
theorem eo_some {i : Int} (h : Ev te σ H (Dd (.int i))) : EvO (tPart te) σ H (some i) := fun H1 s Q q => h H1 s _ fun v H2 s2 p => ⟨i, rp_int p, q H2 s2⟩
variable {lo hi : Option Int} {t1 t2 : TO}
theorem ev_slT (h : Ev te σ H (Dd (.tuple ds))) (h1 : EvO t1 σ H lo) (h2 : EvO t2 σ H hi) : Ev (tSl (rSlA K) te t1 t2) σ H (Dd (.tuple (cutD ds lo hi))) := fun H0 s0 Q q =>
  h H0 s0 _ fun v H1 s1 p => h1 H1 (s0.trans s1) _ fun H2 s2 => h2 H2 ((s0.trans s1).trans s2) _ fun H3 s3 => by
    obtain ⟨a, xs, rfl, e, r⟩ := rp_tup p
    have e3 := s3 _ _ (s2 _ _ e)
    have r3 := (r.sm s2).sm s3
    refine ⟨a, xs, rfl, SqT.of e3, fun z => q _ H3 ((s1.trans s2).trans s3) ?_, fun _ p hp => q _ _ (((s1.trans s2).trans s3).trans (same_new hp)) (.tup upd_same (rp_cut (r3.sm (same_new hp)) lo hi))⟩
    have ez : cutD ds lo hi = ds := by
      unfold cutD
      rw [← r.length, z.1, z.2, List.drop_zero, Nat.sub_zero, List.take_of_length_le (by rw [r.length]; exact Nat.le_refl _)]
    rw [ez]
    exact .tup e3 r3
theorem ev_slL (h : Ev te σ H (Ls ds)) (h1 : EvO t1 σ H lo) (h2 : EvO t2 σ H hi) : Ev (tSl (rSlL K) te t1 t2) σ H (Ls (cutD ds lo hi)) := fun H0 s0 Q q =>
  h H0 s0 _ fun v H1 s1 p => h1 H1 (s0.trans s1) _ fun H2 s2 => h2 H2 ((s0.trans s1).trans s2) _ fun H3 s3 => by
    obtain ⟨a, xs, rfl, e, r⟩ := p
    exact ⟨a, xs, rfl, SqL.of (s3 _ _ (s2 _ _ e)), fun p hp => q _ _ (((s1.trans s2).trans s3).trans (same_new hp)) ⟨p, _, rfl, upd_same, rp_cut (((r.sm s2).sm s3).sm (same_new hp)) lo hi⟩⟩
theorem cutD_from (ds : List PyData) (k : Nat) : cutD ds (some (k : Int)) none = ds.drop k := by
  unfold cutD
  rw [HT.sIx_nat]
  show (ds.drop (min k ds.length)).take (ds.length - min k ds.length) = ds.drop k
  rw [List.take_of_length_le (by rw [List.length_drop]; exact Nat.le_refl _)]
  by_cases h : k ≤ ds.length
  · rw [Nat.min_eq_left h]
  · rw [Nat.min_eq_right (by omega), List.drop_of_length_le (by omega), List.drop_of_length_le (by omega)]
theorem cutD_to (ds : List PyData) (k : Nat) : cutD ds none (some (k : Int)) = ds.take k := by
  unfold cutD
  rw [HT.sIx_nat]
  show (ds.drop 0).take (min k ds.length - 0) = ds.take k
  rw [List.drop_zero, Nat.sub_zero]
  by_cases h : k ≤ ds.length
  · rw [Nat.min_eq_left h]
  · rw [Nat.min_eq_right (by omega), List.take_of_length_le (by omega), List.take_of_length_le (by omega)]
end
end Qt
/-! Qc: short rules, the text's facts. -/
namespace Qt
open PySem PySem.Spec PyProof.Rows L2
section
variable {X : Cx} {x : Str} {pos : Pos}
theorem pe_gstr {z : Str} (h : ∃ t, X.mg x = some (.str z t)) (hg : Gl X x := by rfl) (hd : (x == ("__debug__" : Str)) = false := by decide) : PE X (.Name x pos) (tC (.str z)) := by
  obtain ⟨t, e⟩ := h
  exact pe_glob hg e ⟨t, rfl⟩ hd
theorem pe_gint {z : Int} (h : ∃ t, X.mg x = some (.int z t)) (hg : Gl X x := by rfl) (hd : (x == ("__debug__" : Str)) = false := by decide) : PE X (.Name x pos) (tC (.int z)) := by
  obtain ⟨t, e⟩ := h
  exact pe_glob hg e ⟨t, rfl⟩ hd
theorem pe_ty {n : String} (hm : X.mg x = none) (hg : Gl X x := by rfl) (hv : bootBuiltins x = some (.type n) := by decide +kernel) (hn : x ≠ "__name__" := by decide) (hd : (x == ("__debug__" : Str)) = false := by decide) : PE X (.Name x pos) (tC (.ty n)) :=
  pe_bltn hg hm hv rfl hn hd
end
theorem _root_.L2.Room.units65 {k : Nat} {A : Around} (r : Room k A) : A.units + 65 < cLine := by have := r.un; omega
/-- the module's constants -/
structure Gc (mg : Str → Option Value) : Prop where
  b : Blt mg
  gLETTERS : ∃ t, mg "LETTERS" = some (.str "abcdefghijklmnopqrstuvwxyz" t)
  gLONGEST_NAME : ∃ t, mg "LONGEST_NAME" = some (.int 8 t)
  gFEWEST_ROUTERS : ∃ t, mg "FEWEST_ROUTERS" = some (.int 2 t)
  gMOST_ROUTERS : ∃ t, mg "MOST_ROUTERS" = some (.int 8 t)
  gMOST_LINKS : ∃ t, mg "MOST_LINKS" = some (.int 16 t)
  gLINK : ∃ t, mg "LINK" = some (.int 4 t)
  gROUNDS : ∃ t, mg "ROUNDS" = some (.str "rounds" t)
  gNONE : ∃ t, mg "NONE" = some (.str "none" t)
/-! the rules whose reading names the written part, with that part told -/
section
variable {X : Cx} {K : PySem.W.Frag}
theorem k_in (hK : X.K = K := by rfl) : OpR X (compareOp .In) (rIn K false) := hK ▸ op_in_seq
theorem k_notIn (hK : X.K = K := by rfl) : OpR X (compareOp .NotIn) (rIn K true) := hK ▸ op_notIn_seq
theorem k_eqD (hu : X.A.units + 64 < cLine) (hK : X.K = K := by rfl) : OpR X (compareOp .Eq) (rEqD K) := hK ▸ op_eqD hu
theorem k_neD (hu : X.A.units + 64 < cLine) (hK : X.K = K := by rfl) : OpR X (compareOp .NotEq) (rNeD K) := hK ▸ op_neD hu
theorem k_inD (hu : X.A.units + 65 < cLine) (hK : X.K = K := by rfl) : OpR X (compareOp .In) (rInD K) := hK ▸ op_inD hu
theorem k_notInD (hu : X.A.units + 65 < cLine) (hK : X.K = K := by rfl) : OpR X (compareOp .NotIn) (rNotInD K) := hK ▸ op_notInD hu
theorem k_catA (hK : X.K = K := by rfl) : OpR X (binaryOp .Add) (rCatA K) := hK ▸ op_catA
theorem k_ixT (hK : X.K = K := by rfl) : IxR X (rIxT K) := hK ▸ ix_tup
theorem k_ixL (hK : X.K = K := by rfl) : IxR X (rIxL K) := hK ▸ ix_list
theorem k_slL (hK : X.K = K := by rfl) : SlR X (rSlL K) := hK ▸ sl_list
theorem k_slT (hK : X.K = K := by rfl) : SlR X (rSlA K) := hK ▸ sl_tupA
theorem k_len (hK : X.K = K := by rfl) : CallR X (.builtin "len") (rLenA K) := hK ▸ call_len
theorem k_tup (hK : X.K = K := by rfl) : CallR X (.type "tuple") (rTupO K) := hK ▸ call_tuple_of
theorem k_lst (hK : X.K = K := by rfl) : CallR X (.type "list") (rLstO K) := hK ▸ call_list_of
theorem k_all (hc : X.calm = true) (hK : X.K = K := by rfl) : CallR X (.builtin "all") (rAll K) := hK ▸ cr_all hc
theorem k_isi (hK : X.K = K := by rfl) : CallR X (.builtin "isinstance") (rIsi K) := hK ▸ call_isi
theorem k_index (hK : X.K = K := by rfl) : MtR X "list.index" (rIndex K) := hK ▸ mt_index
variable {e : Expr} {te : TE} {tg l : Expr}
theorem k_piT (h : PE X l te) (hK : X.K = K := by rfl) : PI X tg l (iTup K te) := hK ▸ pi_tup h
theorem k_piL (h : PE X l te) (hK : X.K = K := by rfl) : PI X tg l (iList K te) := hK ▸ pi_list h
theorem k_zip {e e2 : Expr} {ta : TA} {p pos tpos : Pos} {elts : List Expr} {kk : Nat} (hg : Gl X "zip") (hm : X.mg "zip" = none) (ha : PA X [e, e2] ta)
    (hs : starEach [e, e2] X.env = (false, eval e X.env) :: starEach [e2] X.env := by rfl) (hpl : (backTo pos (starEach [e2] X.env)).any (·.1) = false := by rfl) (hK : X.K = K := by rfl) :
    PI X (.Tuple elts kk tpos) (.Call (.Name "zip" p) [e, e2] [] pos) (RZ.iZipA K ta) := hK ▸ RZ.pi_zipA hg hm ha hs hpl
theorem k_tgT {es : List Expr} {k : Nat} {t : TGs} {n : Nat} {pos : Pos} (hc : X.calm = true) (h : PGs X es t) (hn : (assignEach es X.env).length = n := by rfl) (hst : (assignEach es X.env).findIdx? (·.1) = none := by rfl) (hK : X.K = K := by rfl) :
    PG X (.Tuple es k pos) (gTup K n t) := hK ▸ pg_tup hc h hn hst
theorem k_star {e : Expr} {es : List Expr} {te : TE} {t : TA} {p : Pos} (he : PE X e te) (hr : PA X es t) (hs : starEach (.Starred e p :: es) X.env = (true, eval e X.env) :: starEach es X.env := by rfl) (hK : X.K = K := by rfl) :
    PA X (.Starred e p :: es) (StX.tStar K te t) := hK ▸ StX.pa_star he hr hs
theorem k_fld {f : Str} {pos : Pos} (he : PE X e te) (hb : attributeBase e f X.env (eval e X.env) = eval e X.env := by rfl) (hK : X.K = K := by rfl) : PE X (.Attribute e f pos) (tFld K te f) := hK ▸ pe_fld he hb
theorem k_revL {k : Nat} {p1 p2 p3 pos : Pos} (he : PE X e te) (hK : X.K = K := by rfl) : PE X (.Subscript e (.Slice none none (some (.UnaryOp .USub (.Constant (.int 1) k p1) p2)) p3) pos) (tRevL K te) := hK ▸ pe_revL he
theorem k_append {o e : Expr} {to te : TE} {apos cpos : Pos} (ho : PE X o to) (he : PE X e te)
    (hbase : attributeBase o "append" X.env (eval o X.env) = eval o X.env := by rfl)
    (hfew : ((backTo cpos (starEach [e] X.env)).all (fun x => !x.1) && (backToKw cpos (keywordEach [] X.env)).all (fun x => x.1.isSome)
      && decide (([e] : List Expr).length + ([] : List Keyword).length + (if ([] : List Keyword).isEmpty then 0 else 1) < 30)) = true := by rfl)
    (hline : (apos.endLine == cpos.line) = true := by rfl) (hs : starEach [e] X.env = (false, eval e X.env) :: starEach [] X.env := by rfl) (hplain : (backTo cpos (starEach [] X.env)).any (·.1) = false := by rfl) (hK : X.K = K := by rfl) :
    PE X (.Call (.Attribute o "append" apos) [e] [] cpos) (tBM K "list" rAppend to (tCons te tNil)) := hK ▸ pe_bm PySem.F.plainAttrs_list PySem.F.slot_list_append PySem.F.type_list_append mt_append ho (pa_cons he pa_nil hs) hbase hfew hline hs hplain
theorem k_extend {o e : Expr} {to te : TE} {apos cpos : Pos} (ho : PE X o to) (he : PE X e te)
    (hbase : attributeBase o "extend" X.env (eval o X.env) = eval o X.env := by rfl)
    (hfew : ((backTo cpos (starEach [e] X.env)).all (fun x => !x.1) && (backToKw cpos (keywordEach [] X.env)).all (fun x => x.1.isSome)
      && decide (([e] : List Expr).length + ([] : List Keyword).length + (if ([] : List Keyword).isEmpty then 0 else 1) < 30)) = true := by rfl)
    (hline : (apos.endLine == cpos.line) = true := by rfl) (hs : starEach [e] X.env = (false, eval e X.env) :: starEach [] X.env := by rfl) (hplain : (backTo cpos (starEach [] X.env)).any (·.1) = false := by rfl) (hK : X.K = K := by rfl) :
    PE X (.Call (.Attribute o "extend" apos) [e] [] cpos) (tBM K "list" rExtend to (tCons te tNil)) := hK ▸ pe_bm PySem.F.plainAttrs_list PySem.F.slot_list_extend PySem.F.type_list_extend mt_extend ho (pa_cons he pa_nil hs) hbase hfew hline hs hplain
theorem k_indexM {o e : Expr} {to te : TE} {apos cpos : Pos} (ho : PE X o to) (he : PE X e te)
    (hbase : attributeBase o "index" X.env (eval o X.env) = eval o X.env := by rfl)
    (hfew : ((backTo cpos (starEach [e] X.env)).all (fun x => !x.1) && (backToKw cpos (keywordEach [] X.env)).all (fun x => x.1.isSome)
      && decide (([e] : List Expr).length + ([] : List Keyword).length + (if ([] : List Keyword).isEmpty then 0 else 1) < 30)) = true := by rfl)
    (hline : (apos.endLine == cpos.line) = true := by rfl) (hs : starEach [e] X.env = (false, eval e X.env) :: starEach [] X.env := by rfl) (hplain : (backTo cpos (starEach [] X.env)).any (·.1) = false := by rfl) (hK : X.K = K := by rfl) :
    PE X (.Call (.Attribute o "index" apos) [e] [] cpos) (tBM K "list" (rIndex K) to (tCons te tNil)) := by
  subst hK
  exact pe_bm PySem.F.plainAttrs_list PySem.F.slot_list_index PySem.F.type_list_index mt_index ho (pa_cons he pa_nil hs) hbase hfew hline hs hplain
end
/-! < of alike data -/
section
variable {X : Cx} {K : PySem.W.Frag}
def rLtD (K : PySem.W.Frag) : R2 := fun x y H Q => ∃ d e, Dp K H x d ∧ Dp K H y e ∧ PySem.W.alike d e = true ∧ d ≠ .none ∧ d.depth ≤ 60 ∧ Q (.bl (PySem.W.dataLt d e)) H
theorem k_ltD (hu : X.A.units + 64 < cLine) (hK : X.K = K := by rfl) : OpR X (compareOp .Lt) (rLtD K) := by
  subst hK
  intro pins s σ H x y v u Q I rx ry h
  obtain ⟨d, e, hd, he, al, nn, dep, q⟩ := h
  obtain ⟨as, r1⟩ := Dp.reads I d x v hd rx
  obtain ⟨bs, r2⟩ := Dp.reads I e y u he ry
  show wpAny _ _ (richCompare .Lt v u) _ _ _
  exact PySem.W.rcLt_alike d e X.A s v u as bs r1 r2 al nn (by omega) X.prog X.w _ _ ⟨.bl _, H, I, rfl, q⟩
end
end Qt
/-! Qmx: max(list of ints, default=d). -/
namespace Qt
open PySem PySem.Spec PyProof.Rows
section
variable {prog : Program} {w : World} {A : Around} {E : Value → Shared → Prop} {s : Shared} {l : Addr}
/-- the best of the first i -/
def BestAt (items : Array Value) (num : Nat → Int) (i : Nat) (arr : Array Value) : Prop :=
  (i = 0 ∧ arr = #[]) ∨ ∃ vb j, arr = #[vb, vb] ∧ j < i ∧ items[j]? = some vb ∧ ∀ k, k < i → num k ≤ num j
theorem mx_loop {R : Result → Shared → Prop} {I S : Addr} {items : Array Value} {num : Nat → Int} (hnum : ∀ (i : Nat) (v : Value), items[i]? = some v → ∃ t, v = Value.int (num i) t) (hh : A.in1.handled = none) (hlI : l ≠ I) (hSI : S ≠ I) (hSl : S ≠ l) (d : Value) :
    ∀ (k i : Nat) (s : Shared) (arr : Array Value) (c : Nat), items.size - i = k → i ≤ items.size → (s.heap.IsListIter I l i ∧ s.heap.IsList l items) → s.heap.get? S = some { cls := .type "list", dict := none, data := .seq arr c, slots := #[] } → BestAt items num i arr →
    (∀ v h' tk, (∀ b o, b ≠ I → b ≠ S → s.heap.get? b = some o → h'.get? b = some o) → ((items.size = 0 ∧ v = d) ∨ ∃ j, items[j]? = some v ∧ ∀ k, k < items.size → num k ≤ num j) → R (.ok (.ret v)) { s with heap := h', toks := tk }) →
    codeAny (model prog w) A (.builtin "max.loop" ⟨[.ref I, .none, .ref S], [(Str.ofString "default", d)]⟩) R s := by
  have W := Walks.list (prog := prog) (w := w) (A := A.in1) hh I l hlI items
  have hcmp := CmpOf.ints_gt (prog := prog) (w := w) (A := A.in1) num hnum
  have hname : (toString "max" ++ toString ".loop" : String) = "max.loop" := by decide
  intro k
  induction k with
  | zero =>
    intro i s arr c hk hi hst hS hb hR
    have hin : i = items.size := by omega
    refine codeAny_builtin F.entry_max_loop ?_
    rw [Around.under_plainId F.plain_max_loop _]
    show wpAny _ A.in1 (seqItems? (.ref S) >>= _) _ _ s
    refine wpAny_bind (wpAny_seqItems hS rfl ?_)
    show wpAny _ A.in1 (tryCatch (pyNext (.ref I)) _ >>= _) _ _ s
    refine wpAny_bind (wpAny_tryCatch (W.done s _ _ (hin ▸ hst) fun h' tk hk' => ?_))
    have hS' := hk' S _ (by simp [hSI]) hS
    rcases hb with ⟨h0, rfl⟩ | ⟨vb, j, rfl, hj, hv, hm⟩
    · show wpAny _ A.in1 (rule _ >>= fun _ => PySem.ret d) _ _ _
      refine wpAny_bind (wpAny_rule (wpAny_pure ?_))
      exact hR d h' tk (fun b o n1 n2 e => hk' b o (by simp [n1]) e) (.inl ⟨by omega, rfl⟩)
    · show wpAny _ A.in1 (updateSeq S (fun _ => #[]) >>= _) _ _ _
      refine wpAny_bind ?_
      refine wpAny_updateSeq hS' rfl (wpAny_bind (wpAny_letGo (wpAny_pure ?_)))
      exact hR vb _ tk (fun b o n1 n2 e => (Heap.get?_update_other _ _ (fun z => n2 z.symm)).trans (hk' b o (by simp [n1]) e)) (.inr ⟨j, hv, fun k hk => hm k (by omega)⟩)
  | succ k ih =>
    intro i s arr c hk hi hst hS hb hR
    have hlt : i < items.size := by omega
    refine codeAny_builtin F.entry_max_loop ?_
    rw [Around.under_plainId F.plain_max_loop _]
    show wpAny _ A.in1 (seqItems? (.ref S) >>= _) _ _ s
    refine wpAny_bind (wpAny_seqItems hS rfl ?_)
    show wpAny _ A.in1 (tryCatch (pyNext (.ref I)) _ >>= _) _ _ s
    refine wpAny_bind (wpAny_tryCatch (W.item i s _ _ hlt hst fun v h' tk hP hst' hk' => ?_))
    have hS' := hk' S _ (by simp [hSI]) hS
    have upd : ∀ {o : Obj → Obj}, (((h'.update S o).IsListIter I l (i + 1) ∧ (h'.update S o).IsList l items)) := fun {o} =>
      ⟨hst'.1.at fun ob e => (Heap.get?_update_other _ _ hSI).trans e, hst'.2.at fun ob e => (Heap.get?_update_other _ _ hSl).trans e⟩
    rcases hb with ⟨rfl, rfl⟩ | ⟨vb, j, rfl, hj, hv, hm⟩
    · show wpAny _ A.in1 (updateSeq S (fun _ => #[v, v]) >>= _) _ _ _
      refine wpAny_bind ?_
      refine wpAny_updateSeq hS' rfl ?_
      rw [hname]
      refine wpAny_pure ⟨plainId_quiet F.plain_max_loop _, ih 1 _ #[v, v] _ (by omega) (by omega) upd (Heap.get?_update_self _ hS' rfl) (.inr ⟨v, 0, rfl, by omega, hP, fun k hk => by rw [show k = 0 by omega]; exact Int.le_refl _⟩) fun v' h'' tk' hk'' e => ?_⟩
      exact hR v' h'' tk' (fun b o n1 n2 eb => hk'' b o n1 n2 ((Heap.get?_update_other _ _ (fun z => n2 z.symm)).trans (hk' b o (by simp [n1]) eb))) e
    · show wpAny _ A.in1 (tryCatch (holding [v, v] (richCompare .Gt v vb >>= _)) _ >>= _) _ _ _
      refine wpAny_bind (wpAny_tryCatch (wpAny_holding (wpAny_bind (hcmp i j v vb _ _ _ hP hv ?_))))
      refine wpAny_bind (wpAny_holding (wpAny_truthy_bool ?_))
      refine wpAny_bind (wpAny_letGo (wpAny_pure ?_))
      by_cases hgt : num i > num j
      · have e1 : (fun i j => decide (num i > num j)) i j = true := decide_eq_true hgt
        rw [e1]
        simp only [if_true]
        refine wpAny_bind ?_
        refine wpAny_updateSeq hS' rfl (wpAny_bind (wpAny_letGo ?_))
        rw [hname]
        refine wpAny_pure ⟨plainId_quiet F.plain_max_loop _, ih (i + 1) _ #[v, v] _ (by omega) (by omega) upd (Heap.get?_update_self _ hS' rfl) (.inr ⟨v, i, rfl, by omega, hP, fun k hk => ?_⟩) fun v' h'' tk' hk'' e => ?_⟩
        · by_cases z : k = i
          · subst z; exact Int.le_refl _
          · have := hm k (by omega); omega
        · exact hR v' h'' tk' (fun b o n1 n2 eb => hk'' b o n1 n2 ((Heap.get?_update_other _ _ (fun z => n2 z.symm)).trans (hk' b o (by simp [n1]) eb))) e
      · have e1 : (fun i j => decide (num i > num j)) i j = false := decide_eq_false hgt
        rw [e1]
        simp only [Bool.false_eq_true, if_false]
        refine wpAny_bind (wpAny_letGo ?_)
        rw [hname]
        refine wpAny_pure ⟨plainId_quiet F.plain_max_loop _, ih (i + 1) _ #[vb, vb] c (by omega) (by omega) hst' hS' (.inr ⟨vb, j, rfl, by omega, hv, fun k hk => ?_⟩) fun v' h'' tk' hk'' e => ?_⟩
        · by_cases z : k = i
          · subst z; omega
          · exact hm k (by omega)
        · exact hR v' h'' tk' (fun b o n1 n2 eb => hk'' b o n1 n2 (hk' b o (by simp [n1]) eb)) e
theorem mx_args (a v : Value) : argsOk "max" ⟨[a], [(Str.ofString "default", v)]⟩ := by unfold argsOk; kernel_rfl
theorem call_mxd {items : Array Value} {num : Nat → Int} {d : Value} {Q : Value → Shared → Prop} (hnum : ∀ (i : Nat) (v : Value), items[i]? = some v → ∃ t, v = Value.int (num i) t) (hh : A.handled = none) (hl : s.heap.IsList l items)
    (h : ∀ v h' tk, (∀ b o, s.heap.get? b = some o → h'.get? b = some o) → ((items.size = 0 ∧ v = d) ∨ ∃ j, items[j]? = some v ∧ ∀ k, k < items.size → num k ≤ num j) → Q v { s with heap := h', toks := tk }) :
    wpAny (model prog w) A (call (.builtin "max") [.ref l] [(Str.ofString "default", d)]) Q E s := by
  have hname : (toString "max" ++ toString ".loop" : String) = "max.loop" := by decide
  obtain ⟨ol, hol, _⟩ := id hl
  have hll : l < s.heap.objs.size := Heap.lt_size hol
  refine kmb_tree PySem.F.kind_max PySem.F.plain_max PySem.F.entry_max (mx_args _ _) ?_
  show wpAny _ A.in1 (Builtin.Builtins.bindParams "max" ["key", "default"] 0 ⟨[], [(Str.ofString "default", d)]⟩ >>= _) _ _ s
  refine wpAny_bind (wpAny_of_eq (show Builtin.Builtins.bindParams "max" ["key", "default"] 0 ⟨[], [(Str.ofString "default", d)]⟩ = pure [none, some d] from rfl) ?_)
  refine wpAny_bind (wpAny_pure ?_)
  refine wpAny_bind (wpAny_pyIter_list hl ?_)
  refine wpAny_bind (wpAny_newList ?_ (Nat.zero_le _))
  rw [hname]
  have hS : (s.heap.push { cls := .type "list_iterator", data := .fields #[.ref l, .int 0 0] }).objs.size = s.heap.objs.size + 1 := size_push' ..
  refine wpAny_pure ⟨plainId_quiet PySem.F.plain_max_loop _, ?_⟩
  refine mx_loop (I := s.heap.objs.size) (S := (s.heap.push { cls := .type "list_iterator", data := .fields #[.ref l, .int 0 0] }).objs.size) (items := items) hnum hh (Nat.ne_of_lt hll) (by rw [hS]; exact Nat.ne_of_gt (Nat.lt_succ_self _)) (by rw [hS]; exact Nat.ne_of_gt (Nat.lt_succ_of_lt hll)) d _ 0 _ #[] 0 rfl (Nat.zero_le _)
    ⟨⟨_, Heap.get?_push_of_some _ (Heap.get?_push_size _ rfl), rfl, rfl⟩, (hl.push _).push _⟩ (Heap.get?_push_size _ rfl) (.inl ⟨rfl, rfl⟩) fun v h' tk hk e => ?_
  refine h v h' tk (fun b o eb => hk b o ?_ ?_ (Heap.get?_push_of_some _ (Heap.get?_push_of_some _ eb))) e
  · exact Nat.ne_of_lt (Heap.lt_size eb)
  · rw [hS]
    exact Nat.ne_of_lt (Nat.lt_succ_of_lt (Heap.lt_size eb))
end
open L2
/-- max(l, default=d) of a list of ints -/
def rMxD (K : PySem.W.Frag) : List V → List V → Hp → VK → Prop := fun xs zs H Q => ∃ (a : Addr) (ns : List Int) (d : Int), xs = [.ref a] ∧ zs = [.int d] ∧ SqL K H a (ns.map V.int) ∧ ∀ m, ((ns = [] ∧ m = d) ∨ (m ∈ ns ∧ ∀ y ∈ ns, y ≤ m)) → Q (.int m) H
theorem cr_mxd {X : Cx} (hc : X.calm = true) : CallRK X (.builtin "max") [Str.ofString "default"] (rMxD X.K) := by
  intro pins s σ H vs zs us ws Q I r rz h
  obtain ⟨a, ns, d, rfl, rfl, hs, q⟩ := h
  obtain rfl := Vals.ref1 r
  obtain ⟨w1, rfl, td, rfl⟩ := vals1 rz
  obtain ⟨its, rv, hl, _⟩ := I.list hs
  have hz : its.length = ns.length := by rw [← rv.length, List.length_map]
  have hn : ∀ (i : Nat) (v : Value), its.toArray[i]? = some v → ∃ t, v = Value.int (ns.getD i 0) t := fun i v e => by
    have e' : its[i]? = some v := by simpa using e
    have hi : i < ns.length := by
      have := (List.getElem?_eq_some_iff.mp e').1
      omega
    obtain ⟨u, hu, ru⟩ := rv.get (i := i) (x := V.int (ns[i])) (by simp [hi])
    rw [e'] at hu
    cases hu
    obtain ⟨t, rfl⟩ := ru
    exact ⟨t, by simp [hi]⟩
  refine call_mxd (num := fun i => ns.getD i 0) hn (I.ok.hd hc) hl.isList fun v h' tk hk e => ?_
  rcases e with ⟨e0, rfl⟩ | ⟨j, hj, hm⟩
  · refine ⟨.int d, H, I.kept hk, ⟨td, rfl⟩, q d (.inl ⟨?_, rfl⟩)⟩
    have : its.length = 0 := by simpa using e0
    exact List.eq_nil_of_length_eq_zero (by omega)
  · obtain ⟨t, rfl⟩ := hn j v hj
    have hjl : j < ns.length := by
      have := (List.getElem?_eq_some_iff.mp (show its[j]? = some _ by simpa using hj)).1
      omega
    refine ⟨.int _, H, I.kept hk, ⟨t, rfl⟩, q _ (.inr ⟨?_, fun y hy => ?_⟩)⟩
    · simp [hjl]
    · obtain ⟨k, hkl, rfl⟩ := List.getElem_of_mem hy
      have := hm k (by simpa using (by omega : k < its.length))
      simpa [hkl] using this
theorem k_mxd {X : Cx} {K : PySem.W.Frag} (hc : X.calm = true) (hK : X.K = K := by rfl) : CallRK X (.builtin "max") [Str.ofString "default"] (rMxD K) := hK ▸ cr_mxd hc
end Qt
/-! Qxt: a list extended by a tuple. -/
namespace Qt
open PySem PySem.Spec PyProof.Rows L2 PySem.AutoSeq1
theorem list_extend_tup (l : Addr) (items : Array Value) (n : Nat) (b : Addr) (items2 : Array Value) (n2 : Nat) (dd : Option Addr) (sl : Array (Option Value)) (hs0 : ¬(!items.isEmpty && Builtin.List.listTooLong (items.size + items2.size)) = true) (hs1 : items.size ≤ sizeLine) (hs2 : items.size + items2.size ≤ sizeLine + 1) :
    Meets (Builtin.«list.extend» ⟨[.ref l, .ref b], []⟩) (fun _ R s => s.heap.get? l = some { cls := .type "list", dict := none, data := .seq items n, slots := #[] } ∧ s.heap.get? b = some { cls := .type "tuple", dict := dd, data := .seq items2 n2, slots := sl } ∧ R (.ok (.ret Value.none)) { s with heap := s.heap.update l (Obj.mapSeq fun x => x ++ items2), toks := s.toks }) :=
  .of_wp fun prog w A R s h => by
    obtain ⟨hp, g, d, tk, os⟩ := s; obtain ⟨hl, hb, h⟩ := h; have f1 := AutoSeq1.idx_int; have f2 := AutoSeq1.sub_tuple_tuple; have f3 := AutoSeq1.sub_list_list; have f4 := AutoSeq1.sub_tuple_list; have f5 := AutoSeq1.sub_list_tuple;
    have hz' : (items ++ items2).size ≤ sizeLine + 1 := by rw [Array.size_append]; exact hs2
    wp_walk using (wpAny_updateSeq hl rfl (hz := hs1) (_hz' := hz')), wpAny_loadPart' hl, wpAny_loadPart' hb; exact ⟨_, rfl, h⟩
section
variable {X : Cx}
/-- xs.extend(a tuple) -/
def rExtendT (K : PySem.W.Frag) : V → List V → Hp → VK → Prop := fun x vs H Q => ∃ l b xs zs, x = .ref l ∧ vs = [.ref b] ∧ H l = some (.lst xs) ∧ SqT K H b zs ∧ xs.length + zs.length ≤ sizeLine ∧ Q .non (upd H l (.lst (xs ++ zs)))
theorem mt_extendT : MtM X "list.extend" (rExtendT X.K) := by
  intro pins s σ H x vs v us Q I rx rv h
  obtain ⟨l, b, xs, zs, rfl, rfl, hH, hB, hz, q⟩ := h
  cases rx
  obtain ⟨u, rfl, ru⟩ := rv.one
  cases ru
  obtain ⟨z, its, n, r, hl, e⟩ := I.lstM hH
  obtain ⟨its2, r2, ⟨ob, eb, hc, n2, hd⟩, z2⟩ := I.tuple hB
  obtain ⟨oc, od, oda, os⟩ := ob
  simp only at hc hd
  subst hc; subst hd
  have hl2 := r2.length
  have hsz : its.toArray.size + its2.toArray.size ≤ sizeLine := by rw [List.size_toArray, List.size_toArray]; omega
  have hlong : ¬ (!its.toArray.isEmpty && Builtin.List.listTooLong (its.toArray.size + its2.toArray.size)) = true := by
    rw [notLongL hsz, Bool.and_false]
    exact Bool.false_ne_true
  refine call_meets F.slot_list_extend ⟨_, e, rfl⟩ F.entry_list_extend (F.args_list_extend_2 _ _)
    (list_extend_tup l its.toArray n b its2.toArray n2 od os hlong (by rw [List.size_toArray]; omega) (by omega)) ⟨e, eb, ?_⟩
  refine ⟨.non, _, I.lset (its' := its ++ its2) hH e (by simp) (r.append r2) ?_, rfl, q⟩
  rw [List.length_append]
  omega
end
section
variable {X : Cx} {K : PySem.W.Frag} {pos : Pos} {te : TE}
theorem k_extendT {o e : Expr} {to te : TE} {apos cpos : Pos} (ho : PE X o to) (he : PE X e te)
    (hbase : attributeBase o "extend" X.env (eval o X.env) = eval o X.env := by rfl)
    (hfew : ((backTo cpos (starEach [e] X.env)).all (fun x => !x.1) && (backToKw cpos (keywordEach [] X.env)).all (fun x => x.1.isSome)
      && decide (([e] : List Expr).length + ([] : List Keyword).length + (if ([] : List Keyword).isEmpty then 0 else 1) < 30)) = true := by rfl)
    (hline : (apos.endLine == cpos.line) = true := by rfl) (hs : starEach [e] X.env = (false, eval e X.env) :: starEach [] X.env := by rfl) (hplain : (backTo cpos (starEach [] X.env)).any (·.1) = false := by rfl) (hK : X.K = K := by rfl) :
    PE X (.Call (.Attribute o "extend" apos) [e] [] cpos) (tBM K "list" (rExtendT K) to (tCons te tNil)) := by
  subst hK
  exact pe_bm PySem.F.plainAttrs_list PySem.F.slot_list_extend PySem.F.type_list_extend mt_extendT ho (pa_cons he pa_nil hs) hbase hfew hline hs hplain
end
end Qt
/-! Qt5: sorted(set(a list)) as a rule; texts; tuples of texts and ints. -/
namespace Qt
open PySem PySem.Spec PyProof.Rows L2
open PySem.W
/-- a word of the values, kept by the set -/
theorem SetW.and {P : Program} {w : World} {κ : Type} {isE : Heap → Value → κ → Prop} {Sx : Heap → Addr → List (Value × κ) → Prop} (W : SetW P w isE Sx) (Pk : Value → κ → Prop) : SetW P w (fun h v k => isE h v k ∧ Pk v k) (fun h a L => Sx h a L ∧ ∀ p ∈ L, Pk p.1 p.2) where
  keepE := fun e k => ⟨W.keepE e.1 k, e.2⟩
  keepS := fun S k e => ⟨W.keepS S.1 k fun p hp => (e p hp).1, S.2⟩
  new := fun h => ⟨W.new h, fun p hp => by cases hp⟩
  add := fun {A E s a L v k Q} S e hf hu hQ => W.add S.1 e.1 hf hu fun b h' tk L' sb S' c1 c2 => hQ b h' tk L' sb ⟨S', fun p hp => by
    rcases Classical.em (k ∈ L.map (·.2)) with c | c
    · rw [c1 c] at hp
      exact S.2 p hp
    · rcases List.mem_cons.mp ((c2 c).mem_iff.mp hp) with z | z
      · rw [z]; exact e.2
      · exact S.2 p z⟩ c1 c2
  out := fun S => W.out S.1
  nodup := fun S => W.nodup S.1
  elem := fun S p hp => ⟨W.elem S.1 p hp, S.2 p hp⟩
/-- sorted(set(e)) -/
def tSS {κ : Type} (K : PySem.W.Frag) (rel : Hp → V → κ → Prop) (C : List κ → Prop) (le : κ → κ → Bool) (ta : TE) : TE := fun σ H Q => ta σ H fun x H1 => ∃ (l : Addr) (vs : List V) (ks : List κ), x = .ref l ∧ SqL K H1 l vs ∧ EachIs (rel H1) vs ks ∧ (∀ L : List κ, L.Nodup → (∀ k ∈ L, k ∈ ks) → L.length < 63) ∧ C ks ∧
  ∀ (p : Addr) (out : List V) (ks' : List κ), H1 p = none → EachIs (rel H1) out (ks'.mergeSort le) → ks'.Nodup → (∀ k, k ∈ ks' ↔ k ∈ ks) → Q (.ref p) (upd H1 p (.lst out))
theorem each_len {α β : Type} {R : α → β → Prop} : ∀ {as : List α} {bs : List β}, EachIs R as bs → as.length = bs.length
  | _, _, .nil => rfl
  | _, _, .cons _ t => by rw [List.length_cons, List.length_cons, each_len t]
theorem pe_ss {X : Cx} {κ : Type} {isE : Heap → Value → κ → Prop} {Sx : Heap → Addr → List (Value × κ) → Prop} {rel : Hp → V → κ → Prop} {enc : κ → PyData} {C : List κ → Prop} (W : SetW X.prog X.w isE Sx)
    (hrel : ∀ {pins : List (Addr × Obj)} {σ : L2.St} {H : Hp} {s : Shared} {v : V} {u : Value} {k : κ}, Inv X pins σ H s → RelV v u → rel H v k → isE s.heap u k) (hR : ∀ h v k, isE h v k → ∃ as, Reads h v (enc k) as)
    (hC : ∀ ks, C ks → (∀ k ∈ ks, ∀ k' ∈ ks, alike (enc k) (enc k') = true) ∧ ∀ k ∈ ks, (enc k).depth ≤ 60)
    (hs : ∀ ks, C ks → ∀ (A' : Around) (s' : Shared) (vs : List Value) (ks' : List κ), (∀ k ∈ ks', k ∈ ks) → EachIs (fun v d => ∃ as, Reads s'.heap v d as) vs (ks'.map enc) → AllAlike (ks'.map enc) → (∀ d ∈ ks'.map enc, A'.units + d.depth < cLine) → SortsAt X.prog X.w A' s' (dataKind s'.heap (ks'.map enc)) vs)
    {a : Expr} {ta : TE} {p p2 q pos : Pos} (hc : X.calm = true) (hu : X.A.units + 64 < cLine) (hg : Gl X "sorted") (hm : X.mg "sorted" = none) (hg2 : Gl X "set") (hm2 : X.mg "set" = none) (ha : PE X a ta)
    (na : starEach [a] X.env = (false, eval a X.env) :: starEach [] X.env := by rfl) : PE X (.Call (.Name "sorted" p) [.Call (.Name "set" p2) [a] [] q] [] pos) (tSS X.K rel C (dataLe false enc) ta) := by
  refine ⟨fun pins s σ H Q I h => ?_⟩
  refine Call_ (ld_blt I hg hm (show bootBuiltins "sorted" = some (.builtin "sorted") by decide +kernel) ?_ (by decide) (by decide))
  refine PyProof.Rows.callWith_builtin1 (PyProof.Rows.args_cons ?_ rfl) rfl rfl
  refine Call_ (ld_blt I hg2 hm2 boot_set ?_)
  refine PyProof.Rows.callWith_type1 (PyProof.Rows.args_cons (thn (ha.run pins s σ H _ I h) fun v s1 ⟨x, H1, I1, r1, q1⟩ => PyProof.Rows.args_nil ?_) na) na rfl
  obtain ⟨l, vs, ks, rfl, hq, hE, hfew, hCk, q1⟩ := q1
  cases r1
  obtain ⟨its, rv, pl, hz⟩ := I1.list hq
  -- the rows
  obtain ⟨rows, e1, e2, e3⟩ : ∃ rows : List (Value × κ), its = rows.map (·.1) ∧ ks = rows.map (·.2) ∧ ∀ p ∈ rows, isE s1.heap p.1 p.2 ∧ ∃ v, RelV v p.1 ∧ rel H1 v p.2 := by
    clear hq hfew hCk q1 pl hz
    induction hE generalizing its with
    | nil => cases rv; exact ⟨[], rfl, rfl, fun p hp => by cases hp⟩
    | @cons v k vs' ks' hv t ih =>
      cases rv with
      | cons r0 rr =>
        obtain ⟨rows, e1, e2, e3⟩ := ih _ rr
        refine ⟨(_, k) :: rows, by rw [List.map_cons, ← e1], by rw [List.map_cons, ← e2], fun p hp => ?_⟩
        rcases List.mem_cons.mp hp with e | hp
        · rw [e]; exact ⟨hrel I1 r0 hv, v, r0, hv⟩
        · exact e3 p hp
  have hlen : ∀ L : List κ, L.Nodup → (∀ k ∈ L, k ∈ rows.map (·.2)) → L.length < 63 := by rw [← e2]; exact hfew
  have W2 := W.and (fun u k => ∃ v, RelV v u ∧ rel H1 v k)
  refine call_setW W2 (ks := rows) (I.ok.hd hc) pl.isList (by simpa using e1) e3 hlen (by omega) fun h' tk L hS g kp => ?_
  refine PyProof.Rows.args_nil ?_
  have I2 : Inv X pins σ H1 { s1 with heap := h', toks := tk } := I1.kept kp
  have nd := W2.nodup hS
  have subk : ∀ k ∈ L.map (·.2), k ∈ ks := fun k hk => by
    obtain ⟨p, hp, rfl⟩ := List.mem_map.mp hk
    rw [e2]
    exact List.mem_map_of_mem (List.mem_of_mem_take (g.sub p hp))
  have allk : ∀ k ∈ ks, k ∈ L.map (·.2) := fun k hk => by
    rw [e2] at hk
    obtain ⟨p, hp, rfl⟩ := List.mem_map.mp hk
    exact g.all p (by rw [List.take_length]; exact hp)
  obtain ⟨c1, c2⟩ := hC ks hCk
  refine sortedW (s := { s1 with heap := h', toks := tk }) W2 enc (fun h v k e => hR h v k e.1) hS (I.ok.hd hc) (by have := hfew (L.map (·.2)) nd subk; rw [List.length_map] at this; omega) (fun k hk k' hk' => c1 k (subk k hk) k' (subk k' hk')) (fun k hk => by have := c2 k (subk k hk); omega)
    (fun A' s' vs' ks' pm e al d => hs ks hCk A' s' vs' ks' (fun k hk => subk k (pm.mem_iff.mp hk)) e al d) fun s' pp out c ks' k gg oo hp hg' hout pm => ?_
  -- the new list
  obtain ⟨ov, rov, eov⟩ : ∃ ov : List V, Vals ov out ∧ EachIs (rel H1) ov (ks'.mergeSort (dataLe false enc)) := by
    generalize ks'.mergeSort (dataLe false enc) = kk at hout
    clear hg'
    induction hout with
    | nil => exact ⟨[], .nil, .nil⟩
    | cons h1 _ ih =>
      obtain ⟨ov, a1, a2⟩ := ih
      obtain ⟨_, v, r0, hv⟩ := h1
      exact ⟨v :: ov, .cons r0 a1, .cons hv a2⟩
  have hol : ov.length ≤ sizeLine := by
    rw [each_len eov, List.length_mergeSort, pm.length_eq, List.length_map, sizeLine_eq]
    have := hfew (L.map (·.2)) nd subk
    rw [List.length_map] at this
    omega
  have hn : H1 pp = none := I2.hok.fresh hp
  have J := I2.call (h' := s'.heap) (g' := s'.gens) (d' := s'.drawn) (t' := s'.toks) (ch := []) (H' := upd H1 pp (.lst ov)) (Un.laid k hp hn) (I2.hok.laid k hp ⟨hol, out, c, rov, hg'⟩) (by rw [gg]; exact I1.bare) (fun _ z => nomatch z)
  have e : s' = { s1 with heap := s'.heap, gens := s'.gens, drawn := s'.drawn, toks := s'.toks } := by
    cases s'
    cases s1
    cases oo
    rfl
  rw [e]
  exact ⟨.ref pp, _, J, rfl, q1 pp ov ks' hn eov (pm.nodup_iff.mpr nd) fun k => ⟨fun hk => subk k (pm.mem_iff.mp hk), fun hk => pm.mem_iff.mpr (allk k hk)⟩⟩
end Qt
/-! Qe: plain.py, what a net asks. -/
namespace Qt
open PySem PySem.Spec PyProof.Rows L2
/-- a name -/
def letters : Str := "abcdefghijklmnopqrstuvwxyz"
structure Nm (x : Str) : Prop where
  one : 1 ≤ x.length
  eight : x.length ≤ 8
  sg : ∀ c ∈ x.cps.toList, c ∈ letters.cps.toList
/-- the order of texts -/
def Lt (x y : Str) : Prop := x.cps.toList < y.cps.toList
instance (x y : Str) : Decidable (Lt x y) := inferInstanceAs (Decidable (x.cps.toList < y.cps.toList))
theorem lt_irrefl (x : Str) : ¬ Lt x x := List.lt_irrefl _
theorem lt_trans {x y z : Str} (a : Lt x y) (b : Lt y z) : Lt x z := List.lt_trans a b
/-- ascending, any order -/
theorem zip_tail {α : Type} {R : α → α → Prop} : ∀ {xs : List α}, xs.Pairwise R → ∀ p ∈ xs.zip (xs.drop 1), R p.1 p.2
  | [], _, p, h => by simp at h
  | [x], _, p, h => by simp at h
  | x :: y :: r, a, p, h => by
    obtain ⟨a1, a2⟩ := List.pairwise_cons.mp a
    have h' : p ∈ (x, y) :: (y :: r).zip ((y :: r).drop 1) := h
    rcases List.mem_cons.mp h' with rfl | h'
    · exact a1 y (by simp)
    · exact zip_tail a2 p h'
section
variable {P : Program} {w : World} {K : PySem.W.Frag} {mg : Str → Option Value} {base : Heap}
abbrev sIsInteger : Stmt := top 10
theorem scIsInteger : FnScope ["value"] ["value"] (defScope sIsInteger) := ⟨rfl, rfl, rfl, by decide +kernel, rfl, by decide +kernel, by decide +kernel⟩
def spIsInteger : Sp := fun vs H Q _ => ∃ i : Int, vs = [.int i] ∧ ∀ v H', Same H H' → Dd (.bool true) v H' → Q v H'
theorem cal_is_integer (D : Std K mg "is_integer" sIsInteger) (T : Gc mg) : Cal P w K mg base "is_integer" ["value"] 1 spIsInteger := by
  refine D.cal scIsInteger (fun vs H Q E h => ?_) (fun _ _ _ _ _ _ us hl => match us, hl with | [_], _ => rfl) (fun f cdv A outer s H vs Q E hr h => ?_)
  · obtain ⟨i, rfl, _⟩ := h
    rfl
  · obtain ⟨i, rfl, k⟩ := h
    have nd := scIsInteger.nd
    refine ⟨_, (pss_one (ps_ret (pe_and (pe_callB (k_isi (K := K)) (by rfl) T.b.isinstance (by decide +kernel) (pa_cons (pv 0) (pa_cons (pe_ty (n := "int") T.b.int) pa_nil))) (pe_one (pe_not (pe_callB (k_isi (K := K)) (by rfl) T.b.isinstance (by decide +kernel) (pa_cons (pv 0) (pa_cons (pe_ty (n := "bool") T.b.bool) pa_nil)))))))), ?_⟩
    refine s_ret (ev_and (ev_isi (T := "int") (b := true) (ev_varX rfl) (stb_x _) ?_ (by decide +kernel)) (fun _ => ev_not (ev_isi (T := "int") (b := false) (ev_varX rfl) (stb_x _) ?_ (by decide +kernel)))) k
    · rintro v H rfl
      exact .base (.int i)
    · rintro v H rfl
      exact .base (.int i)
abbrev sIsFrom : Stmt := top 11
theorem scIsFrom : FnScope ["value", "least"] ["value", "least"] (defScope sIsFrom) := ⟨rfl, rfl, rfl, by decide +kernel, rfl, by decide +kernel, by decide +kernel⟩
def spIsFrom : Sp := fun vs H Q _ => ∃ i j : Int, vs = [.int i, .int j] ∧ ∀ v H', Same H H' → Dd (.bool (decide (j ≤ i))) v H' → Q v H'
theorem cal_is_from (D : Std K mg "is_from" sIsFrom) (T : Gc mg) (Cis_integer : Cal P w K mg base "is_integer" ["value"] 1 spIsInteger) : Cal P w K mg base "is_from" ["value", "least"] 2 spIsFrom := by
  refine D.cal scIsFrom (fun vs H Q E h => ?_) (fun _ _ _ _ _ _ us hl => match us, hl with | [_, _], _ => rfl) (fun f cdv A outer s H vs Q E hr h => ?_)
  · obtain ⟨i, j, rfl, _⟩ := h
    rfl
  · obtain ⟨i, j, rfl, k⟩ := h
    have nd := scIsFrom.nd
    refine ⟨_, (pss_one (ps_ret (pe_and (pe_cal Cis_integer (hr.mono (by decide)) (pa_cons (pv 0) pa_nil)) (pe_one (pe_cmpR op_ge (pv 0) (pv 1) (nomark _)))))), ?_⟩
    refine s_ret (ev_and (b := true) (ev_call (ea_x (ev_varX rfl) ea_nil) ?_) (fun _ => ev_ge (ev_varI rfl) (ev_varI rfl))) fun v H1 s1 p => k v H1 s1 (by rw [Bool.true_and] at p; exact p)
    rintro vs H1 s1 ⟨v, r, rfl, rfl, rfl⟩ Q' q
    exact ⟨i, rfl, fun v H2 s2 p => q v H2 s2 p⟩
abbrev sIsName : Stmt := top 12
theorem scIsName : FnScope ["value", "sign"] ["value"] (defScope sIsName) := ⟨rfl, rfl, rfl, by decide +kernel, rfl, by decide +kernel, by decide +kernel⟩
def spIsName : Sp := fun vs H Q _ => ∃ x : Str, vs = [.str x] ∧ Nm x ∧ ∀ v H', Same H H' → Dd (.bool true) v H' → Q v H'
/-- a <= b <= c of ints -/
theorem ev_chainLe {σ : L2.St} {H : Hp} {ta tb tc : TE} {i j k : Int} (ha : Ev ta σ H (Dd (.int i))) (hb : Ev tb σ H (Dd (.int j))) (hc : Ev tc σ H (Dd (.int k))) :
    Ev (tChain (rI0 fun i j => .bl (decide (i ≤ j))) (rI0 fun i j => .bl (decide (i ≤ j))) ta tb tc) σ H (Dd (.bool (decide (i ≤ j) && decide (j ≤ k)))) := fun H1 s Q q =>
  ha H1 s _ fun x H2 s2 p2 => hb H2 (s.trans s2) _ fun y H3 s3 p3 => ⟨i, j, rp_int p2, rp_int p3, _, rfl, by
    cases e : decide (i ≤ j) with
    | true =>
      rw [e] at q
      refine iteT (hc H3 ((s.trans s2).trans s3) _ fun z H4 s4 p4 => ⟨j, k, rp_int p3, rp_int p4, q _ H4 ((s2.trans s3).trans s4) (.bl _)⟩)
    | false =>
      rw [e] at q
      exact iteF (q _ H3 (s2.trans s3) (.bl _))⟩
theorem cal_is_name (D : Std K mg "is_name" sIsName) (T : Gc mg) : Cal P w K mg base "is_name" ["value"] 1 spIsName := by
  refine D.cal scIsName (fun vs H Q E h => ?_) (fun _ _ _ _ _ _ us hl => match us, hl with | [_], _ => rfl) (fun f cdv A outer s H vs Q E hr h => ?_)
  · obtain ⟨x, rfl, _⟩ := h
    rfl
  · obtain ⟨x, rfl, nx, k⟩ := h
    have nd := scIsName.nd
    have l1 := nx.one
    have l8 := nx.eight
    have lz : x.cps.size ≤ 8 := l8
    refine ⟨_, (pss_cons (ps_if (PW.pt (pw_or (pt_not (pt_val (pe_callB (k_isi (K := K)) (by rfl) T.b.isinstance (by decide +kernel) (pa_cons (pv 0) (pa_cons (pe_ty (n := "str") T.b.str) pa_nil))))) (pw_or1 (pt_not (pt_chain op_le op_le pe_int (pe_callB (k_len (K := K)) (by rfl) T.b.len (by decide +kernel) (pa_cons (pv 0) pa_nil)) (pe_gint T.gLONGEST_NAME)))))) (pss_one (ps_ret pe_bl)) pss_nil)
 (pss_one (ps_ret (pe_callB (k_all (K := K) rfl) (by rfl) T.b.all (by decide +kernel) (pa_cons (pe_lc (own := [("sign", 1)]) rfl nd (pi_str (pv 0)) (blkOk_by (by kernel_rfl)) (fun _ _ _ _ _ => (pg_name (i := 1) nd rfl (Or.inl rfl))) (fun _ _ _ _ _ => pts_nil) (fun _ _ _ _ _ => (pe_cmpR op_in_sign (pv 1) (pe_gstr T.gLETTERS) rfl))) pa_nil))))), ?_⟩
    refine s_if (b := false) (et_is (et_or (et_not (et_B (ev_isi (T := "str") (b := true) (ev_varX rfl) (stb_x _) ?_ (by decide +kernel)))) fun _ => et_not (et_test (ev_chainLe ev_int (ev_lenS (ev_varS rfl) (by omega)) ev_int))) ?_) (fun e => by cases e) fun _ H1 s1 => ?_
    · rintro v H rfl
      exact .base (.str x)
    · have h1 : decide ((1 : Int) ≤ (x.length : Int)) = true := decide_eq_true (by omega)
      have h2 : decide ((x.length : Int) ≤ 8) = true := decide_eq_true (by omega)
      rw [h1, h2] <;> rfl
    · refine s_ret (ev_all (bs := x.cps.toList.map fun c => decide (c ∈ letters.cps.toList)) (ev_lcSg (fun c => decide (c ∈ letters.cps.toList)) (ev_varS rfl) (by omega) (fun v => rfl) fun c hc H2 s2 => ev_inSign (ev_varS rfl) ev_str)) fun v H2 s2 p => k v H2 (s1.trans s2) ?_
      have e : (x.cps.toList.map fun c => decide (c ∈ letters.cps.toList)).all id = true := by
        rw [List.all_map, List.all_eq_true]
        intro c hc
        exact decide_eq_true (nx.sg c hc)
      rw [e] at p
      exact p
abbrev sIsOneOf : Stmt := top 13
theorem scIsOneOf : FnScope ["value", "some"] ["value", "some"] (defScope sIsOneOf) := ⟨rfl, rfl, rfl, by decide +kernel, rfl, by decide +kernel, by decide +kernel⟩
def spIsOneOf : Sp := fun vs H Q _ => ∃ (x : Str) (v : V) (R : List Str), vs = [.str x, v] ∧ Rp H v (tupS R) ∧ ∀ v H', Same H H' → Dd (.bool (decide (x ∈ R))) v H' → Q v H'
theorem cal_is_one_of (D : Std K mg "is_one_of" sIsOneOf) (T : Gc mg) : Cal P w K mg base "is_one_of" ["value", "some"] 1 spIsOneOf := by
  refine D.cal scIsOneOf (fun vs H Q E h => ?_) (fun _ _ _ _ _ _ us hl => match us, hl with | [_, _], _ => rfl) (fun f cdv A outer s H vs Q E hr h => ?_)
  · obtain ⟨x, v, R, rfl, _⟩ := h
    rfl
  · obtain ⟨x, v, R, rfl, h1, k⟩ := h
    have nd := scIsOneOf.nd
    refine ⟨_, (pss_one (ps_ret (pe_and (pe_callB (k_isi (K := K)) (by rfl) T.b.isinstance (by decide +kernel) (pa_cons (pv 0) (pa_cons (pe_ty (n := "str") T.b.str) pa_nil))) (pe_one (pe_cmpR (k_in (K := K)) (pv 0) (pv 1) rfl))))), ?_⟩
    refine s_ret (ev_and (ev_isi (T := "str") (b := true) (ev_varX rfl) (stb_x _) ?_ (by decide +kernel)) (fun _ => ev_inT (ev_varS rfl) (ev_varD rfl h1))) fun v H1 s1 p => k v H1 s1 (by rw [Bool.true_and] at p; exact p)
    rintro v H rfl
    exact .base (.str x)
/-- data in a tuple is a tuple -/
theorem ty_tup {H : Hp} {v : V} {ds : List PyData} (h : Rp H v (.tuple ds)) : TyX K H v (.type "tuple") := by
  obtain ⟨a, xs, rfl, e, _⟩ := rp_tup h
  exact .base (.tup e)
abbrev sIsTupleOf : Stmt := top 14
theorem scIsTupleOf : FnScope ["value", "many"] ["value", "many"] (defScope sIsTupleOf) := ⟨rfl, rfl, rfl, by decide +kernel, rfl, by decide +kernel, by decide +kernel⟩
def spIsTupleOf : Sp := fun vs H Q _ => ∃ (v : V) (ds : List PyData) (n : Int), vs = [v, .int n] ∧ Rp H v (.tuple ds) ∧ ∀ v H', Same H H' → Dd (.bool (decide ((ds.length : Int) = n))) v H' → Q v H'
theorem cal_is_tuple_of (D : Std K mg "is_tuple_of" sIsTupleOf) (T : Gc mg) : Cal P w K mg base "is_tuple_of" ["value", "many"] 1 spIsTupleOf := by
  refine D.cal scIsTupleOf (fun vs H Q E h => ?_) (fun _ _ _ _ _ _ us hl => match us, hl with | [_, _], _ => rfl) (fun f cdv A outer s H vs Q E hr h => ?_)
  · obtain ⟨v, ds, n, rfl, _⟩ := h
    rfl
  · obtain ⟨v, ds, n, rfl, h1, k⟩ := h
    have nd := scIsTupleOf.nd
    refine ⟨_, (pss_one (ps_ret (pe_and (pe_callB (k_isi (K := K)) (by rfl) T.b.isinstance (by decide +kernel) (pa_cons (pv 0) (pa_cons (pe_ty (n := "tuple") T.b.tuple) pa_nil))) (pe_one (pe_cmpR op_eq (pe_callB (k_len (K := K)) (by rfl) T.b.len (by decide +kernel) (pa_cons (pv 0) pa_nil)) (pv 1) (nomark _)))))), ?_⟩
    refine s_ret (ev_and (ev_isi (T := "tuple") (b := true) (ev_varD rfl h1) (stb_d _) (fun _ _ p => ty_tup p) (by decide +kernel)) (fun _ => ev_eqI (ev_lenT (ev_varD rfl h1)) (ev_varI rfl))) fun v H1 s1 p => k v H1 s1 (by rw [Bool.true_and] at p; exact p)
abbrev sIsTupleTo : Stmt := top 15
theorem scIsTupleTo : FnScope ["value", "most"] ["value", "most"] (defScope sIsTupleTo) := ⟨rfl, rfl, rfl, by decide +kernel, rfl, by decide +kernel, by decide +kernel⟩
def spIsTupleTo : Sp := fun vs H Q _ => ∃ (v : V) (ds : List PyData) (n : Int), vs = [v, .int n] ∧ Rp H v (.tuple ds) ∧ ∀ v H', Same H H' → Dd (.bool (decide ((ds.length : Int) ≤ n))) v H' → Q v H'
theorem cal_is_tuple_to (D : Std K mg "is_tuple_to" sIsTupleTo) (T : Gc mg) : Cal P w K mg base "is_tuple_to" ["value", "most"] 1 spIsTupleTo := by
  refine D.cal scIsTupleTo (fun vs H Q E h => ?_) (fun _ _ _ _ _ _ us hl => match us, hl with | [_, _], _ => rfl) (fun f cdv A outer s H vs Q E hr h => ?_)
  · obtain ⟨v, ds, n, rfl, _⟩ := h
    rfl
  · obtain ⟨v, ds, n, rfl, h1, k⟩ := h
    have nd := scIsTupleTo.nd
    refine ⟨_, (pss_one (ps_ret (pe_and (pe_callB (k_isi (K := K)) (by rfl) T.b.isinstance (by decide +kernel) (pa_cons (pv 0) (pa_cons (pe_ty (n := "tuple") T.b.tuple) pa_nil))) (pe_one (pe_cmpR op_le (pe_callB (k_len (K := K)) (by rfl) T.b.len (by decide +kernel) (pa_cons (pv 0) pa_nil)) (pv 1) (nomark _)))))), ?_⟩
    refine s_ret (ev_and (ev_isi (T := "tuple") (b := true) (ev_varD rfl h1) (stb_d _) (fun _ _ p => ty_tup p) (by decide +kernel)) (fun _ => ev_le (ev_lenT (ev_varD rfl h1)) (ev_varI rfl))) fun v H1 s1 p => k v H1 s1 (by rw [Bool.true_and] at p; exact p)
abbrev sAreAscending : Stmt := top 16
theorem scAreAscending : FnScope ["things", "one", "other"] ["things"] (defScope sAreAscending) := ⟨rfl, rfl, rfl, by decide +kernel, rfl, by decide +kernel, by decide +kernel⟩
/-- of a tuple of texts -/
def spAscT : Sp := fun vs H Q _ => ∃ (v : V) (xs : List Str), vs = [v] ∧ Rp H v (tupS xs) ∧ xs.Pairwise Lt ∧ xs.length ≤ 1000 ∧ ∀ v H', Same H H' → Dd (.bool true) v H' → Q v H'
theorem all_true {α : Type} (ps : List α) : ((ps.filter fun _ => true).map fun _ => PyData.bool true) = (ps.map fun _ => true).map PyData.bool := by
  rw [List.filter_eq_self.mpr (fun _ _ => rfl), List.map_map] <;> rfl
theorem all_map_true {α : Type} (ps : List α) : (ps.map fun _ => true).all id = true := by
  rw [List.all_map, List.all_eq_true]
  intro _ _
  rfl
theorem cal_ascT (D : Std K mg "are_ascending" sAreAscending) (T : Gc mg) : Cal P w K mg base "are_ascending" ["things"] 1 spAscT := by
  refine D.cal scAreAscending (fun vs H Q E h => ?_) (fun _ _ _ _ _ _ us hl => match us, hl with | [_], _ => rfl) (fun f cdv A outer s H vs Q E hr h => ?_)
  · obtain ⟨v, xs, rfl, _⟩ := h
    rfl
  · obtain ⟨v, xs, rfl, h1, asc, hz, k⟩ := h
    have nd := scAreAscending.nd
    refine ⟨_, (pss_one (ps_ret (pe_callB (k_all (K := K) rfl) (by rfl) T.b.all (by decide +kernel) (pa_cons (pe_lc (own := [("one", 1), ("other", 2)]) rfl nd (k_zip (K := K) (by rfl) T.b.zip (pa_cons (pv 0) (pa_cons (pe_slice (k_slT (K := K)) (pv 0) (po_some pe_int) po_none) pa_nil))) (blkOk_by (by kernel_rfl)) (fun _ _ _ _ _ => (k_tgT (K := K) (n := 2) rfl (pgs_cons (pg_name (i := 1) nd rfl (Or.inl rfl)) (pgs_cons (pg_name (i := 2) nd rfl (Or.inl rfl)) pgs_nil)))) (fun _ _ _ _ _ => pts_nil) (fun _ _ _ _ _ => (pe_cmpR op_lt_str (pv 1) (pv 2) (nomark _)))) pa_nil)))), ?_⟩
    have ed : cutD (xs.map PyData.str) (some 1) none = (xs.map PyData.str).drop 1 := cutD_from _ 1
    refine s_ret (ev_all (bs := ((xs.map PyData.str).zip ((xs.map PyData.str).drop 1)).map fun _ => true) ?_) fun v H1 s1 p => k v H1 s1 (by rw [all_map_true] at p; exact p)
    rw [← all_true]
    rw [← ed]
    refine ev_lcZ (fun _ => true) (fun _ => .bool true) (ea_d (ev_varD rfl h1) (ea_d (ev_slT (ev_varD rfl h1) (eo_some ev_int) eo_none) ea_nil)) (.inl ⟨rfl, rfl⟩) (by rw [List.length_map]; omega) (fun _ _ => rfl) fun d e hde v u H1 s1 rd re => ⟨et_yes, fun _ => ?_⟩
    rw [ed, ← List.map_drop, List.zip_map] at hde
    obtain ⟨⟨x, y⟩, hxy, e⟩ := List.mem_map.mp hde
    cases e
    have hlt : Lt x y := zip_tail asc _ hxy
    exact ev_is (ev_ltS (ev_varD rfl rd) (ev_varD rfl re)) (by rw [decide_eq_true (show x.cps.toList < y.cps.toList from hlt)])
abbrev sIsAscendingOf : Stmt := top 17
theorem scIsAscendingOf : FnScope ["value", "some", "item"] ["value", "some"] (defScope sIsAscendingOf) := ⟨rfl, rfl, rfl, by decide +kernel, rfl, by decide +kernel, by decide +kernel⟩
def spIsAscendingOf : Sp := fun vs H Q _ => ∃ (v1 v2 : V) (xs R : List Str), vs = [v1, v2] ∧ Rp H v1 (tupS xs) ∧ Rp H v2 (tupS R) ∧ (∀ x ∈ xs, x ∈ R) ∧ xs.Pairwise Lt ∧ xs.length ≤ 1000 ∧ ∀ v H', Same H H' → Dd (.bool true) v H' → Q v H'
theorem cal_is_ascending_of (D : Std K mg "is_ascending_of" sIsAscendingOf) (T : Gc mg) (Cis_one_of : Cal P w K mg base "is_one_of" ["value", "some"] 1 spIsOneOf) (Care_ascending : Cal P w K mg base "are_ascending" ["things"] 1 spAscT) :
    Cal P w K mg base "is_ascending_of" ["value", "some"] 2 spIsAscendingOf := by
  refine D.cal scIsAscendingOf (fun vs H Q E h => ?_) (fun _ _ _ _ _ _ us hl => match us, hl with | [_, _], _ => rfl) (fun f cdv A outer s H vs Q E hr h => ?_)
  · obtain ⟨v1, v2, xs, R, rfl, _⟩ := h
    rfl
  · obtain ⟨v1, v2, xs, R, rfl, h1, h2, hx, asc, hz, k⟩ := h
    have nd := scIsAscendingOf.nd
    refine ⟨_, (pss_one (ps_ret (pe_and (pe_callB (k_isi (K := K)) (by rfl) T.b.isinstance (by decide +kernel) (pa_cons (pv 0) (pa_cons (pe_ty (n := "tuple") T.b.tuple) pa_nil))) (pe_and (pe_callB (k_all (K := K) rfl) (by rfl) T.b.all (by decide +kernel) (pa_cons (pe_lc (own := [("item", 2)]) rfl nd (k_piT (K := K) (pv 0)) (blkOk_by (by kernel_rfl)) (fun _ _ _ _ _ => (pg_name (i := 2) nd rfl (Or.inl rfl))) (fun _ _ _ _ _ => pts_nil) (fun _ _ _ _ _ => (pe_cal Cis_one_of (hr.mono (by decide)) (pa_cons (pv 2) (pa_cons (pv 1) pa_nil))))) pa_nil)) (pe_one (pe_cal Care_ascending (hr.mono (by decide)) (pa_cons (pv 0) pa_nil))))))), ?_⟩
    refine s_ret (ev_and (b := true) (ev_isi (T := "tuple") (b := true) (ev_varD rfl h1) (stb_d _) (fun _ _ p => ty_tup p) (by decide +kernel)) fun _ => ev_and (b := true) (ev_is (ev_all (bs := xs.map fun _ => true) ?_) (by rw [all_map_true])) fun _ => ev_call (ea_d (ev_varD rfl h1) ea_nil) ?_) k
    · rw [← all_true]
      refine ev_lcTS (fun _ => true) (fun _ => .bool true) (ev_varD rfl h1) (by omega) (fun _ => rfl) fun x hm H1 s1 => ⟨et_yes, fun _ => ?_⟩
      refine ev_call (ea_x (ev_varX rfl) (ea_d (ev_varD rfl (h2.sm s1)) ea_nil)) ?_
      rintro vs H2 s2 ⟨v, r, rfl, rfl, u, r2, rfl, p2, rfl⟩ Q' q
      exact ⟨x, u, R, rfl, p2, fun v H3 s3 p => q v H3 s3 (by rw [decide_eq_true (hx x hm)] at p; exact p)⟩
    · rintro vs H2 s2 ⟨v, r, rfl, p1, rfl⟩ Q' q
      exact ⟨v, xs, rfl, p1, asc, hz, q⟩
end
end Qt
/-! Qf: are_ascending of pairs, are_routers, is_link, are_links. -/
namespace Qt
open PySem PySem.Spec PyProof.Rows L2
/-! ### links -/
/-- a, b, there, back -/
abbrev Lk := Str × Str × Int × Int
def lkD (l : Lk) : PyData := .tuple [.str l.1, .str l.2.1, .int l.2.2.1, .int l.2.2.2]
abbrev lksD (ls : List Lk) : PyData := .tuple (ls.map lkD)
def prD (p : Str × Str) : PyData := .tuple [.str p.1, .str p.2]
/-- the order of pairs -/
def Lt2 (p q : Str × Str) : Prop := Lt p.1 q.1 ∨ (p.1 = q.1 ∧ Lt p.2 q.2)
structure RsOk (R : List Str) : Prop where
  two : 2 ≤ R.length
  eight : R.length ≤ 8
  nm : ∀ x ∈ R, Nm x
  asc : R.Pairwise Lt
structure LkOk (R : List Str) (l : Lk) : Prop where
  a : l.1 ∈ R
  b : l.2.1 ∈ R
  lt : Lt l.1 l.2.1
  there : 1 ≤ l.2.2.1
  back : 1 ≤ l.2.2.2
structure LsOk (R : List Str) (ls : List Lk) : Prop where
  few : ls.length ≤ 16
  ok : ∀ l ∈ ls, LkOk R l
  asc : ls.Pairwise fun l m => Lt2 (l.1, l.2.1) (m.1, m.2.1)
theorem lt_pr {p q : Str × Str} (h : Lt2 p q) : PySem.W.dataLt (prD p) (prD q) = true := by
  unfold prD
  rw [PySem.W.dataLt_pair rfl rfl, PySem.W.dataLt_str, PySem.W.dataLt_str]
  have ev : ∀ x y : Str, PyData.eqv (.str x) (.str y) = decide (x = y) := fun x y => by
    show (x == y) = _
    by_cases e : x = y
    · subst e; simp
    · simp [e]
  rw [ev, ev]
  rcases h with h | ⟨e, h⟩
  · have n : ¬ p.1 = q.1 := fun z => lt_irrefl q.1 (z ▸ h)
    rw [if_neg (by simpa using n)]
    exact decide_eq_true h
  · have n : ¬ p.2 = q.2 := fun z => lt_irrefl q.2 (z ▸ h)
    rw [if_pos (by simpa using e), if_neg (by simpa using n)]
    exact decide_eq_true h
section
variable {P : Program} {w : World} {K : PySem.W.Frag} {mg : Str → Option Value} {base : Heap}
theorem ev_ltD {σ : L2.St} {H : Hp} {ta tb : TE} {d e : PyData} {b : Bool} (ha : Ev ta σ H (Dd d)) (hb : Ev tb σ H (Dd e)) (al : PySem.W.alike d e = true) (nn : d ≠ .none) (dep : d.depth ≤ 60) (hl : PySem.W.dataLt d e = b) :
    Ev (tOp (rLtD K) ta tb) σ H (Dd (.bool b)) := ev_op ha (stb_d _) hb fun u v H1 s p1 p2 Q q => ⟨d, e, Rp.dp _ _ p1, Rp.dp _ _ p2, al, nn, dep, q _ H1 (Same.refl _) (by rw [hl]; exact .bl _)⟩
theorem nx_of {f : L2.St → Hp → Prop} {D : Ends} {σ : L2.St} {H : Hp} (h : f σ H) : tNext { D with nx := f } σ H := h
theorem prD_depth (p : Str × Str) : (prD p).depth ≤ 60 := by
  show (PyData.tuple [.str p.1, .str p.2]).depth ≤ 60
  simp [PyData.depth, PyData.depthAll]
/-- of a list of pairs -/
def spAscL : Sp := fun vs H Q _ => ∃ (v : V) (ps : List (Str × Str)), vs = [v] ∧ Ls (ps.map prD) v H ∧ ps.Pairwise Lt2 ∧ ps.length ≤ 1000 ∧ ∀ v H', Same H H' → Dd (.bool true) v H' → Q v H'
theorem cal_ascL (D : Std K mg "are_ascending" sAreAscending) (T : Gc mg) : Cal P w K mg base "are_ascending" ["things"] 1 spAscL := by
  refine D.cal scAreAscending (fun vs H Q E h => ?_) (fun _ _ _ _ _ _ us hl => match us, hl with | [_], _ => rfl) (fun f cdv A outer s H vs Q E hr h => ?_)
  · obtain ⟨v, xs, rfl, _⟩ := h
    rfl
  · obtain ⟨v, ps, rfl, h1, asc, hz, k⟩ := h
    have nd := scAreAscending.nd
    refine ⟨_, (pss_one (ps_ret (pe_callB (k_all (K := K) rfl) (by rfl) T.b.all (by decide +kernel) (pa_cons (pe_lc (own := [("one", 1), ("other", 2)]) rfl nd (k_zip (K := K) (by rfl) T.b.zip (pa_cons (pv 0) (pa_cons (pe_slice (k_slL (K := K)) (pv 0) (po_some pe_int) po_none) pa_nil))) (blkOk_by (by kernel_rfl)) (fun _ _ _ _ _ => (k_tgT (K := K) (n := 2) rfl (pgs_cons (pg_name (i := 1) nd rfl (Or.inl rfl)) (pgs_cons (pg_name (i := 2) nd rfl (Or.inl rfl)) pgs_nil)))) (fun _ _ _ _ _ => pts_nil) (fun _ _ _ _ _ => (pe_cmpR (k_ltD (K := K) hr.units) (pv 1) (pv 2) (nomark _)))) pa_nil)))), ?_⟩
    have ed : cutD (ps.map prD) (some 1) none = (ps.map prD).drop 1 := cutD_from _ 1
    have hv : Ev (tVar 0) (start ["things", "one", "other"] [v]) H (Ls (ps.map prD)) := ev_var rfl h1 (stb_l _)
    refine s_ret (ev_all (bs := ((ps.map prD).zip ((ps.map prD).drop 1)).map fun _ => true) ?_) fun v H1 s1 p => k v H1 s1 (by rw [all_map_true] at p; exact p)
    rw [← all_true]
    rw [← ed]
    refine ev_lcZ (fun _ => true) (fun _ => .bool true) (ea_l hv (ea_l (ev_slL hv (eo_some ev_int) eo_none) ea_nil)) (.inr ⟨rfl, rfl⟩) (by rw [List.length_map]; omega) (fun _ _ => rfl) fun d e hde v u H1 s1 rd re => ⟨et_yes, fun _ => ?_⟩
    rw [ed, ← List.map_drop, List.zip_map] at hde
    obtain ⟨⟨x, y⟩, hxy, e⟩ := List.mem_map.mp hde
    cases e
    have hlt : Lt2 x y := zip_tail asc _ hxy
    exact ev_ltD (ev_varD rfl rd) (ev_varD rfl re) rfl (by intro z; cases z) (prD_depth x) (lt_pr hlt)
abbrev sAreRouters : Stmt := top 27
theorem scAreRouters : FnScope ["value", "name"] ["value"] (defScope sAreRouters) := ⟨rfl, rfl, rfl, by decide +kernel, rfl, by decide +kernel, by decide +kernel⟩
def spAreRouters : Sp := fun vs H Q _ => ∃ (v : V) (R : List Str), vs = [v] ∧ Rp H v (tupS R) ∧ RsOk R ∧ ∀ v H', Same H H' → Dd (.bool true) v H' → Q v H'
theorem cal_are_routers (D : Std K mg "are_routers" sAreRouters) (T : Gc mg) (Cis_tuple_to : Cal P w K mg base "is_tuple_to" ["value", "most"] 1 spIsTupleTo) (Cis_name : Cal P w K mg base "is_name" ["value"] 1 spIsName)
    (Care_ascending : Cal P w K mg base "are_ascending" ["things"] 1 spAscT) : Cal P w K mg base "are_routers" ["value"] 2 spAreRouters := by
  refine D.cal scAreRouters (fun vs H Q E h => ?_) (fun _ _ _ _ _ _ us hl => match us, hl with | [_], _ => rfl) (fun f cdv A outer s H vs Q E hr h => ?_)
  · obtain ⟨v, R, rfl, _⟩ := h
    rfl
  · obtain ⟨v, R, rfl, h1, ok, k⟩ := h
    have nd := scAreRouters.nd
    have l2 := ok.two
    have l8 := ok.eight
    refine ⟨_, (pss_cons (ps_if (PW.pt (pw_or (pt_not (pt_val (pe_cal Cis_tuple_to (hr.mono (by decide)) (pa_cons (pv 0) (pa_cons (pe_gint T.gMOST_ROUTERS) pa_nil))))) (pw_or1 (pt_cmpR op_lt (pe_callB (k_len (K := K)) (by rfl) T.b.len (by decide +kernel) (pa_cons (pv 0) pa_nil)) (pe_gint T.gFEWEST_ROUTERS) (nomark _))))) (pss_one (ps_ret pe_bl)) pss_nil)
 (pss_one (ps_ret (pe_and (pe_callB (k_all (K := K) rfl) (by rfl) T.b.all (by decide +kernel) (pa_cons (pe_lc (own := [("name", 1)]) rfl nd (k_piT (K := K) (pv 0)) (blkOk_by (by kernel_rfl)) (fun _ _ _ _ _ => (pg_name (i := 1) nd rfl (Or.inl rfl))) (fun _ _ _ _ _ => pts_nil) (fun _ _ _ _ _ => (pe_cal Cis_name (hr.mono (by decide)) (pa_cons (pv 1) pa_nil)))) pa_nil)) (pe_one (pe_cal Care_ascending (hr.mono (by decide)) (pa_cons (pv 0) pa_nil))))))), ?_⟩
    refine s_if (b := false) (et_is (et_or (et_not (et_B (ev_call (P := Dd (.bool true)) (ea_d (ev_varD rfl h1) (ea_x (v := .int 8) (ev_c fun _ => rfl) ea_nil)) ?_))) fun _ => et_test (ev_lt (ev_lenT (ev_varD rfl h1)) ev_int)) ?_) (fun e => by cases e) fun _ H1 s1 => ?_
    · rintro vs H1 s1 ⟨v, r, rfl, p1, u, r2, rfl, rfl, rfl⟩ Q' q
      refine ⟨v, _, 8, rfl, p1, fun v H2 s2 p => q v H2 s2 ?_⟩
      rw [List.length_map, decide_eq_true (by omega)] at p
      exact p
    · rw [List.length_map, decide_eq_false (by omega)] <;> rfl
    · refine nx_of ?_
      refine s_ret (P := Dd (.bool true)) (ev_and (b := true) (c := true) (ev_is (ev_all (bs := R.map fun _ => true) ?_) (by rw [all_map_true])) fun _ => ev_call (ea_d (ev_varD rfl (h1.sm s1)) ea_nil) ?_) ?_
      · rw [← all_true]
        refine ev_lcTS (fun _ => true) (fun _ => .bool true) (ev_varD rfl (h1.sm s1)) (by omega) (fun _ => rfl) fun x hm H2 s2 => ⟨et_yes, fun _ => ev_call (ea_x (ev_varX rfl) ea_nil) ?_⟩
        rintro vs H3 s3 ⟨v, r, rfl, rfl, rfl⟩ Q' q
        exact ⟨x, rfl, ok.nm x hm, q⟩
      · rintro vs H2 s2 ⟨v, r, rfl, p1, rfl⟩ Q' q
        exact ⟨v, R, rfl, p1, ok.asc, by omega, q⟩
      · exact fun v H2 s2 p => k v H2 (s1.trans s2) p
abbrev sIsLink : Stmt := top 28
theorem scIsLink : FnScope ["value", "routers"] ["value", "routers"] (defScope sIsLink) := ⟨rfl, rfl, rfl, by decide +kernel, rfl, by decide +kernel, by decide +kernel⟩
def spIsLink : Sp := fun vs H Q _ => ∃ (v u : V) (l : Lk) (R : List Str), vs = [v, u] ∧ Rp H v (lkD l) ∧ Rp H u (tupS R) ∧ LkOk R l ∧ ∀ v H', Same H H' → Dd (.bool true) v H' → Q v H'
theorem cal_is_link (D : Std K mg "is_link" sIsLink) (T : Gc mg) (Cis_tuple_of : Cal P w K mg base "is_tuple_of" ["value", "many"] 1 spIsTupleOf) (Cis_ascending_of : Cal P w K mg base "is_ascending_of" ["value", "some"] 2 spIsAscendingOf)
    (Cis_from : Cal P w K mg base "is_from" ["value", "least"] 2 spIsFrom) : Cal P w K mg base "is_link" ["value", "routers"] 3 spIsLink := by
  refine D.cal scIsLink (fun vs H Q E h => ?_) (fun _ _ _ _ _ _ us hl => match us, hl with | [_, _], _ => rfl) (fun f cdv A outer s H vs Q E hr h => ?_)
  · obtain ⟨v, u, l, R, rfl, _⟩ := h
    rfl
  · obtain ⟨v, u, l, R, rfl, h1, h2, ok, k⟩ := h
    have nd := scIsLink.nd
    refine ⟨_, (pss_cons (ps_if (PW.pt (pw_or (pt_not (pt_val (pe_cal Cis_tuple_of (hr.mono (by decide)) (pa_cons (pv 0) (pa_cons (pe_gint T.gLINK) pa_nil))))) (pw_or1 (pt_not (pt_val (pe_cal Cis_ascending_of (hr.mono (by decide)) (pa_cons (pe_slice (k_slT (K := K)) (pv 0) po_none (po_some pe_int)) (pa_cons (pv 1) pa_nil)))))))) (pss_one (ps_ret pe_bl)) pss_nil)
 (pss_one (ps_ret (pe_and (pe_cal Cis_from (hr.mono (by decide)) (pa_cons (pe_ix (k_ixT (K := K)) (pv 0) pe_int (fun _ _ => rfl)) (pa_cons pe_int pa_nil))) (pe_one (pe_cal Cis_from (hr.mono (by decide)) (pa_cons (pe_ix (k_ixT (K := K)) (pv 0) pe_int (fun _ _ => rfl)) (pa_cons pe_int pa_nil)))))))), ?_⟩
    have ec : cutD [PyData.str l.1, .str l.2.1, .int l.2.2.1, .int l.2.2.2] none (some 2) = [l.1, l.2.1].map PyData.str := cutD_to _ 2
    refine s_if (b := false) (et_is (et_or (b := false) (c := false) (et_not (et_B (b := true) (ev_call (ea_d (ev_varD rfl h1) (ea_x (v := .int 4) (ev_c fun _ => rfl) ea_nil)) ?_))) fun _ => et_not (et_B (b := true) (ev_call (ea_d (ev_is (ev_slT (ev_varD rfl h1) eo_none (eo_some ev_int)) (congrArg PyData.tuple ec)) (ea_d (ev_varD rfl h2) ea_nil)) ?_))) rfl) (fun e => by cases e) fun _ H1 s1 => ?_
    · rintro vs H1 s1 ⟨v, r, rfl, p1, u, r2, rfl, rfl, rfl⟩ Q' q
      exact ⟨v, _, 4, rfl, p1, fun v H2 s2 p => q v H2 s2 p⟩
    · rintro vs H1 s1 ⟨v, r, rfl, p1, u, r2, rfl, p2, rfl⟩ Q' q
      refine ⟨v, u, [l.1, l.2.1], R, rfl, p1, p2, ?_, ?_, by simp, q⟩
      · intro x hx
        rcases List.mem_cons.mp hx with rfl | hx
        · exact ok.a
        · rw [List.mem_singleton.mp hx]
          exact ok.b
      · exact List.pairwise_cons.mpr ⟨fun y hy => by rw [List.mem_singleton.mp hy]; exact ok.lt, List.pairwise_singleton _ _⟩
    · have from_ : ∀ (j : Nat) (i : Int), ([PyData.str l.1, .str l.2.1, .int l.2.2.1, .int l.2.2.2])[j]? = some (.int i) → 1 ≤ i → Ev (tCall spIsFrom [] E0 (tCons (tOp (rIxT K) (tVar 0) (tC (.int (j : Int)))) (tCons (tC (.int 1)) tNil))) (start ["value", "routers"] [v, u]) H1 (Dd (.bool true)) := fun j i hj hi => by
        refine ev_call (ea_d (ev_ixT (ev_varD rfl (h1.sm s1)) ev_int rfl hj) (ea_d ev_int ea_nil)) ?_
        rintro vs H2 s2 ⟨v, r, rfl, p1, u, r2, rfl, p2, rfl⟩ Q' q
        refine ⟨i, 1, by rw [rp_int p1, rp_int p2], fun v H3 s3 p => q v H3 s3 ?_⟩
        rw [decide_eq_true hi] at p
        exact p
      exact s_ret (P := Dd (.bool true)) (ev_and (b := true) (c := true) (from_ 2 _ rfl ok.there) fun _ => from_ 3 _ rfl ok.back) fun v H2 s2 p => k v H2 (s1.trans s2) p
abbrev sAreLinks : Stmt := top 29
theorem scAreLinks : FnScope ["value", "routers", "link"] ["value", "routers"] (defScope sAreLinks) := ⟨rfl, rfl, rfl, by decide +kernel, rfl, by decide +kernel, by decide +kernel⟩
def spAreLinks : Sp := fun vs H Q _ => ∃ (v u : V) (ls : List Lk) (R : List Str), vs = [v, u] ∧ Rp H v (lksD ls) ∧ Rp H u (tupS R) ∧ LsOk R ls ∧ ∀ v H', Same H H' → Dd (.bool true) v H' → Q v H'
theorem cal_are_links (D : Std K mg "are_links" sAreLinks) (T : Gc mg) (Cis_tuple_to : Cal P w K mg base "is_tuple_to" ["value", "most"] 1 spIsTupleTo) (Cis_link : Cal P w K mg base "is_link" ["value", "routers"] 3 spIsLink)
    (Care_ascending : Cal P w K mg base "are_ascending" ["things"] 1 spAscL) : Cal P w K mg base "are_links" ["value", "routers"] 4 spAreLinks := by
  refine D.cal scAreLinks (fun vs H Q E h => ?_) (fun _ _ _ _ _ _ us hl => match us, hl with | [_, _], _ => rfl) (fun f cdv A outer s H vs Q E hr h => ?_)
  · obtain ⟨v, u, l, R, rfl, _⟩ := h
    rfl
  · obtain ⟨v, u, ls, R, rfl, h1, h2, ok, k⟩ := h
    have nd := scAreLinks.nd
    have few := ok.few
    refine ⟨_, (pss_cons (ps_if (PW.pt (pw_or (pt_not (pt_val (pe_cal Cis_tuple_to (hr.mono (by decide)) (pa_cons (pv 0) (pa_cons (pe_gint T.gMOST_LINKS) pa_nil))))) (pw_or1 (pt_not (pt_val (pe_callB (k_all (K := K) rfl) (by rfl) T.b.all (by decide +kernel) (pa_cons (pe_lc (own := [("link", 2)]) rfl nd (k_piT (K := K) (pv 0)) (blkOk_by (by kernel_rfl)) (fun _ _ _ _ _ => (pg_name (i := 2) nd rfl (Or.inl rfl))) (fun _ _ _ _ _ => pts_nil) (fun _ _ _ _ _ => (pe_cal Cis_link (hr.mono (by decide)) (pa_cons (pv 2) (pa_cons (pv 1) pa_nil))))) pa_nil))))))) (pss_one (ps_ret pe_bl)) pss_nil)
 (pss_one (ps_ret (pe_cal Care_ascending (hr.mono (by decide)) (pa_cons (pe_lc (own := [("link", 2)]) rfl nd (k_piT (K := K) (pv 0)) (blkOk_by (by kernel_rfl)) (fun _ _ _ _ _ => (pg_name (i := 2) nd rfl (Or.inl rfl))) (fun _ _ _ _ _ => pts_nil) (fun _ _ _ _ _ => (pe_slice (k_slT (K := K)) (pv 2) po_none (po_some pe_int)))) pa_nil))))), ?_⟩
    refine s_if (b := false) (et_is (et_or (b := false) (c := false) (et_not (et_B (b := true) (ev_call (ea_d (ev_varD rfl h1) (ea_x (v := .int 16) (ev_c fun _ => rfl) ea_nil)) ?_))) fun _ => et_not (et_B (b := true) (ev_is (ev_all (bs := (ls.map lkD).map fun _ => true) ?_) (by rw [all_map_true])))) rfl) (fun e => by cases e) fun _ H1 s1 => ?_
    · rintro vs H1 s1 ⟨v, r, rfl, p1, u, r2, rfl, rfl, rfl⟩ Q' q
      refine ⟨v, _, 16, rfl, p1, fun v H2 s2 p => q v H2 s2 ?_⟩
      rw [List.length_map, decide_eq_true (by omega)] at p
      exact p
    · rw [← all_true]
      refine ev_lcT (fun _ => true) (fun _ => .bool true) (ev_varD rfl h1) (by rw [List.length_map]; omega) (fun _ => rfl) fun d hd v H1 s1 rd => ⟨et_yes, fun _ => ?_⟩
      obtain ⟨l, hl, rfl⟩ := List.mem_map.mp hd
      refine ev_call (ea_d (ev_varD rfl rd) (ea_d (ev_varD rfl (h2.sm s1)) ea_nil)) ?_
      rintro vs H2 s2 ⟨v, r, rfl, p1, u, r2, rfl, p2, rfl⟩ Q' q
      exact ⟨v, u, l, R, rfl, p1, p2, ok.ok l hl, q⟩
    · have el : ((ls.map lkD).filter fun _ => true).map (fun d => match d with | .tuple xs => PyData.tuple (xs.take 2) | d => d) = (ls.map fun l => (l.1, l.2.1)).map prD := by
        rw [List.filter_eq_self.mpr (fun _ _ => rfl), List.map_map, List.map_map] <;> rfl
      refine nx_of ?_
      refine s_ret (P := Dd (.bool true)) (ev_call (P := Dd (.bool true)) (ea_l (ds := (ls.map fun l => (l.1, l.2.1)).map prD) ?_ ea_nil) ?_) ?_
      · rw [← el]
        refine ev_lcT _ _ (ev_varD rfl (h1.sm s1)) (by rw [List.length_map]; omega) (fun _ => rfl) fun d hd v H2 s2 rd => ⟨et_yes, fun _ => ?_⟩
        obtain ⟨l, hl, rfl⟩ := List.mem_map.mp hd
        exact ev_is (ev_slT (ev_varD rfl rd) eo_none (eo_some ev_int)) (congrArg PyData.tuple (cutD_to _ 2))
      · rintro vs H2 s2 ⟨v, r, rfl, p1, rfl⟩ Q' q
        exact ⟨v, _, rfl, p1, List.pairwise_map.mpr ok.asc, by rw [List.length_map]; omega, q⟩
      · exact fun v H2 s2 p => k v H2 (s1.trans s2) p
end
end Qt
/-! Qg: dicts as association lists. -/
namespace Qt
open PySem PySem.Spec PyProof.Rows L2
/-! ### association lists -/
section
variable {κ : Type} [DecidableEq κ] {β γ : Type}
def al (l : List (κ × β)) (k : κ) : Option β := (l.find? fun p => decide (p.1 = k)).map (·.2)
def aput (l : List (κ × β)) (k : κ) (b : β) : List (κ × β) := if (al l k).isSome = true then l.map (fun p => if p.1 = k then (p.1, b) else p) else l ++ [(k, b)]
theorem al_nil {k : κ} : al ([] : List (κ × β)) k = none := rfl
theorem al_pos {p : κ × β} {r : List (κ × β)} {k : κ} (e : p.1 = k) : al (p :: r) k = some p.2 := by simp [al, List.find?_cons, e]
theorem al_neg {p : κ × β} {r : List (κ × β)} {k : κ} (e : ¬ p.1 = k) : al (p :: r) k = al r k := by simp [al, List.find?_cons, e]
theorem al_repl (k j : κ) (y : β) : ∀ l : List (κ × β), al (l.map fun p => if p.1 = k then (p.1, y) else p) j = (al l j).map fun x => if j = k then y else x
  | [] => rfl
  | p :: r => by
    rw [List.map_cons]
    by_cases e : p.1 = k
    · by_cases e2 : p.1 = j
      · rw [if_pos e, al_pos (p := (p.1, y)) e2, al_pos e2]
        simp [← e2, e]
      · rw [if_pos e, al_neg (p := (p.1, y)) e2, al_neg e2, al_repl]
    · rw [if_neg e]
      by_cases e2 : p.1 = j
      · rw [al_pos e2, al_pos e2]
        simp [← e2, e]
      · rw [al_neg e2, al_neg e2, al_repl]
theorem al_snoc (k j : κ) (y : β) : ∀ l : List (κ × β), al l k = none → al (l ++ [(k, y)]) j = if j = k then some y else al l j
  | [], _ => by
    by_cases e : j = k
    · rw [if_pos e]
      exact al_pos e.symm
    · rw [if_neg e]
      exact al_neg (fun z => e z.symm)
  | p :: r, h => by
    have n : ¬ p.1 = k := fun e => by rw [al_pos e] at h; cases h
    rw [al_neg n] at h
    rw [List.cons_append]
    by_cases e2 : p.1 = j
    · rw [al_pos e2, al_pos e2, if_neg (fun z => n (e2.trans z))]
    · rw [al_neg e2, al_neg e2, al_snoc k j y r h]
theorem al_put (l : List (κ × β)) (k j : κ) (y : β) : al (aput l k y) j = if j = k then some y else al l j := by
  unfold aput
  split
  · rename_i h
    rw [al_repl]
    by_cases e : j = k
    · subst e
      obtain ⟨x, hx⟩ := Option.isSome_iff_exists.mp h
      simp [hx]
    · simp [e]
  · rename_i h
    exact al_snoc k j y l (by simpa using h)
theorem aput_len (l : List (κ × β)) (k : κ) (y : β) : (aput l k y).length ≤ l.length + 1 := by
  unfold aput
  split <;> simp
theorem aput_new {l : List (κ × β)} {k : κ} (y : β) (h : al l k = none) : aput l k y = l ++ [(k, y)] := by
  unfold aput
  rw [h] <;> rfl
theorem al_mem {l : List (κ × β)} {k : κ} {b : β} (h : al l k = some b) : (k, b) ∈ l := by
  induction l with
  | nil => cases h
  | cons p r ih =>
    by_cases e : p.1 = k
    · rw [al_pos e] at h
      cases h
      subst e
      exact List.mem_cons_self
    · rw [al_neg e] at h
      exact List.mem_cons_of_mem _ (ih h)
theorem al_none {l : List (κ × β)} {k : κ} : al l k = none ↔ ∀ p ∈ l, p.1 ≠ k := by
  induction l with
  | nil => simp [al_nil]
  | cons p r ih =>
    by_cases e : p.1 = k
    · rw [al_pos e]
      simp [e]
    · rw [al_neg e, ih]
      simp [e]
theorem aput_keys (l : List (κ × β)) (k : κ) (y : β) : (aput l k y).map (·.1) = if (al l k).isSome = true then l.map (·.1) else l.map (·.1) ++ [k] := by
  unfold aput
  split
  · rw [List.map_map]
    refine List.map_congr_left fun p _ => ?_
    show (if p.1 = k then (p.1, y) else p).1 = p.1
    split <;> rfl
  · simp
theorem aput_nodup {l : List (κ × β)} (h : (l.map (·.1)).Nodup) (k : κ) (y : β) : ((aput l k y).map (·.1)).Nodup := by
  rw [aput_keys]
  split
  · exact h
  · rename_i e
    have e' : al l k = none := by simpa using e
    refine List.nodup_append.mpr ⟨h, by simp, fun a ha b hb z => ?_⟩
    obtain rfl : b = k := by simpa using hb
    obtain ⟨p, hp, rfl⟩ := List.mem_map.mp ha
    exact al_none.mp e' p hp z
theorem al_of_mem {l : List (κ × β)} (h : (l.map (·.1)).Nodup) {p : κ × β} (hp : p ∈ l) : al l p.1 = some p.2 := by
  induction l with
  | nil => cases hp
  | cons q r ih =>
    rw [List.map_cons, List.nodup_cons] at h
    rcases List.mem_cons.mp hp with rfl | hp
    · exact al_pos rfl
    · rw [al_neg (fun e => h.1 (e ▸ List.mem_map_of_mem hp))]
      exact ih h.2 hp
theorem mem_aput {l : List (κ × β)} {k : κ} {y : β} {p : κ × β} (h : p ∈ aput l k y) : p ∈ l ∨ p = (k, y) := by
  unfold aput at h
  split at h
  · obtain ⟨q, hq, e⟩ := List.mem_map.mp h
    by_cases z : q.1 = k
    · rw [if_pos z] at e
      subst e
      exact .inr (by rw [z])
    · rw [if_neg z] at e
      subst e
      exact .inl hq
  · simpa using h
def amap (g : β → γ) (l : List (κ × β)) : List (κ × γ) := l.map fun p => (p.1, g p.2)
theorem al_amap (g : β → γ) (k : κ) : ∀ l : List (κ × β), al (amap g l) k = (al l k).map g
  | [] => rfl
  | p :: r => by
    show al ((p.1, g p.2) :: amap g r) k = _
    by_cases e : p.1 = k
    · rw [al_pos (p := (p.1, g p.2)) e, al_pos e] <;> rfl
    · rw [al_neg (p := (p.1, g p.2)) e, al_neg e, al_amap]
theorem amap_put (g : β → γ) (l : List (κ × β)) (k : κ) (y : β) : amap g (aput l k y) = aput (amap g l) k (g y) := by
  have e : (al (amap g l) k).isSome = (al l k).isSome := by rw [al_amap, Option.isSome_map]
  unfold aput
  rw [e]
  split
  · unfold amap
    rw [List.map_map, List.map_map]
    refine List.map_congr_left fun p _ => ?_
    show (fun p => (p.1, g p.2)) (if p.1 = k then (p.1, y) else p) = if p.1 = k then (p.1, g y) else (p.1, g p.2)
    split <;> rfl
  · unfold amap
    rw [List.map_append] <;> rfl
end
/-! ### the dict's pairs as data -/
section
variable {κ κ' : Type} [DecidableEq κ] [DecidableEq κ'] {H H' : Hp} {φ : κ' → κ} {kvs : List (κ × V)} {l : List (κ' × PyData)} {k : κ'} {v : V} {d : PyData}
inductive KvR (H : Hp) (φ : κ' → κ) : List (κ × V) → List (κ' × PyData) → Prop
  | nil : KvR H φ [] []
  | cons {k : κ'} {v : V} {d : PyData} {kvs : List (κ × V)} {l : List (κ' × PyData)} : Rp H v d → KvR H φ kvs l → KvR H φ ((φ k, v) :: kvs) ((k, d) :: l)
theorem KvR.up (h : KvR H φ kvs l) (t : Tk H H') : KvR H' φ kvs l := by
  induction h with
  | nil => exact .nil
  | cons r _ ih => exact .cons (r.up t) ih
theorem KvR.sm (h : KvR H φ kvs l) (t : Same H H') : KvR H' φ kvs l := h.up (tk_same t)
theorem KvR.len (h : KvR H φ kvs l) : kvs.length = l.length := by
  induction h with
  | nil => rfl
  | cons _ _ ih => rw [List.length_cons, List.length_cons, ih]
theorem KvR.snoc (h : KvR H φ kvs l) (r : Rp H v d) : KvR H φ (kvs ++ [(φ k, v)]) (l ++ [(k, d)]) := by
  induction h with
  | nil => exact .cons r .nil
  | cons r' _ ih => exact .cons r' ih
theorem KvR.some (inj : ∀ a b, φ a = φ b → a = b) (h : KvR H φ kvs l) (e : al l k = some d) : ∃ v, valV kvs (φ k) = Option.some v ∧ Rp H v d := by
  induction h with
  | nil => cases e
  | @cons k' v' d' kvs l r _ ih =>
    by_cases z : k' = k
    · rw [al_pos (p := (k', d')) z] at e
      cases e
      exact ⟨v', valV_pos (p := (φ k', v')) (congrArg φ z), r⟩
    · rw [al_neg (p := (k', d')) z] at e
      obtain ⟨v, h1, h2⟩ := ih e
      exact ⟨v, by rw [valV_neg (p := (φ k', v')) (fun q => z (inj _ _ q))]; exact h1, h2⟩
theorem KvR.none (inj : ∀ a b, φ a = φ b → a = b) (h : KvR H φ kvs l) (e : al l k = none) : valV kvs (φ k) = Option.none := by
  induction h with
  | nil => rfl
  | @cons k' v' d' kvs l r _ ih =>
    have z : ¬ k' = k := fun z => by rw [al_pos (p := (k', d')) z] at e; cases e
    rw [al_neg (p := (k', d')) z] at e
    rw [valV_neg (p := (φ k', v')) (fun q => z (inj _ _ q))]
    exact ih e
theorem KvR.isS (inj : ∀ a b, φ a = φ b → a = b) (h : KvR H φ kvs l) : (valV kvs (φ k)).isSome = (al l k).isSome := by
  cases e : al l k with
  | none => rw [h.none inj e]; rfl
  | some d => obtain ⟨v, h1, _⟩ := h.some inj e; rw [h1]; rfl
theorem KvR.repl (inj : ∀ a b, φ a = φ b → a = b) (h : KvR H φ kvs l) (r : Rp H v d) : KvR H φ (kvs.map fun kv => if kv.1 = φ k then (kv.1, v) else kv) (l.map fun p => if p.1 = k then (p.1, d) else p) := by
  induction h with
  | nil => exact .nil
  | @cons k' v' d' kvs l r' _ ih =>
    rw [List.map_cons, List.map_cons]
    by_cases z : k' = k
    · rw [if_pos (show (φ k', v').1 = φ k from congrArg φ z), if_pos (show (k', d').1 = k from z)]
      exact .cons r ih
    · rw [if_neg (show ¬ (φ k', v').1 = φ k from fun q => z (inj _ _ q)), if_neg (show ¬ (k', d').1 = k from z)]
      exact .cons r' ih
theorem KvR.put (inj : ∀ a b, φ a = φ b → a = b) (h : KvR H φ kvs l) (r : Rp H v d) : KvR H φ (putK kvs (φ k) v) (aput l k d) := by
  unfold putK aput
  rw [valV_any, h.isS inj (k := k)]
  split
  · exact h.repl inj r
  · exact h.snoc r
theorem KvR.at_ (h : KvR H φ kvs l) {i : Nat} {x : κ} (e : kvs[i]? = Option.some (x, v)) : ∃ k d, l[i]? = Option.some (k, d) ∧ x = φ k ∧ Rp H v d := by
  induction h generalizing i with
  | nil => simp at e
  | @cons k' v' d' kvs l r' _ ih =>
    cases i with
    | zero =>
      simp at e
      obtain ⟨rfl, rfl⟩ := e
      exact ⟨k', d', rfl, rfl, r'⟩
    | succ i => exact ih (by simpa using e)
end
/-- keys -/
def tk (ks : List Str) : List Key := ks.map Sum.inr
def sk (x : Str) : Key := Sum.inr x
theorem sk_inj (a b : Str) (h : sk a = sk b) : a = b := Sum.inr.inj h
theorem tk_inj : ∀ a b : List Str, tk a = tk b → a = b
  | [], [], _ => rfl
  | [], _ :: _, h => by cases h
  | _ :: _, [], h => by cases h
  | x :: a, y :: b, h => by
    injection h with h1 h2
    rw [Sum.inr.inj h1, tk_inj a b h2]
theorem tk_kV (ks : List Str) : (tk ks).map kV = ks.map V.str := by
  unfold tk
  rw [List.map_map] <;> rfl
/-- a dict with tuples of texts, with texts as keys -/
def Dt (l : List (List Str × PyData)) : VP := fun v H => ∃ a kvs, v = .ref a ∧ Rd H a (.dT kvs) ∧ KvR H tk kvs l
def Dk (l : List (Str × PyData)) : VP := fun v H => ∃ a kvs, v = .ref a ∧ Rd H a (.dK kvs) ∧ KvR H sk kvs l
theorem rd_sm {H H' : Hp} {a : Addr} {u : HO} (s : Same H H') (r : Rd H a u) : Rd H' a u := by
  rcases r with r | ⟨o, r⟩
  · exact .inl (s _ _ r)
  · exact .inr ⟨o, s _ _ r⟩
theorem stb_dt (l : List (List Str × PyData)) : Stb (Dt l) := fun v H H' s ⟨a, kvs, e, r, q⟩ => ⟨a, kvs, e, rd_sm s r, q.sm s⟩
theorem stb_dk (l : List (Str × PyData)) : Stb (Dk l) := fun v H H' s ⟨a, kvs, e, r, q⟩ => ⟨a, kvs, e, rd_sm s r, q.sm s⟩
section
variable {σ : L2.St} {H H' : Hp} {td ty tx : TE} {l : List (List Str × PyData)} {lk : List (Str × PyData)} {k : List Str} {x : Str} {d : PyData}
theorem dt_get {v y : V} (hd : Dt l v H) (hk : Rp H y (tupS k)) : ∃ a o, v = .ref a ∧ DGet H a y o ∧ o.isSome = (al l k).isSome ∧ ∀ d, al l k = some d → ∃ u, o = some u ∧ Rp H u d := by
  obtain ⟨a, kvs, rfl, rd, kv⟩ := hd
  obtain ⟨b, rfl, hb⟩ := rp_tupS hk
  refine ⟨a, valV kvs (tk k), rfl, .inr ⟨kvs, tk k, b, rd, rfl, by rw [tk_kV]; exact hb, rfl⟩, kv.isS tk_inj, fun d e => kv.some tk_inj e⟩
theorem dk_get {v y : V} (hd : Dk lk v H) (hk : Rp H y (.str x)) : ∃ a o, v = .ref a ∧ DGet H a y o ∧ o.isSome = (al lk x).isSome ∧ ∀ d, al lk x = some d → ∃ u, o = some u ∧ Rp H u d := by
  obtain ⟨a, kvs, rfl, rd, kv⟩ := hd
  rw [rp_str hk]
  exact ⟨a, valV kvs (sk x), rfl, .inl ⟨kvs, sk x, rd, rfl, rfl⟩, kv.isS sk_inj, fun d e => kv.some sk_inj e⟩
theorem ev_dgetT (hd : Ev td σ H (Dt l)) (hk : Ev ty σ H (Dd (tupS k))) (e : al l k = some d) : Ev (tDGet td ty) σ H (Dd d) := fun H1 s Q q => hd H1 s _ fun x H2 s2 p => hk H2 (s.trans s2) _ fun y H3 s3 p3 => by
  obtain ⟨a, o, rfl, g, _, h⟩ := dt_get (stb_dt l x H2 H3 s3 p) p3
  obtain ⟨u, rfl, ru⟩ := h d e
  exact ⟨a, u, rfl, g, q u H3 (s2.trans s3) ru⟩
theorem ev_dgetK (hd : Ev td σ H (Dk lk)) (hk : Ev ty σ H (Dd (.str x))) (e : al lk x = some d) : Ev (tDGet td ty) σ H (Dd d) := fun H1 s Q q => hd H1 s _ fun x H2 s2 p => hk H2 (s.trans s2) _ fun y H3 s3 p3 => by
  obtain ⟨a, o, rfl, g, _, h⟩ := dk_get (stb_dk lk x H2 H3 s3 p) p3
  obtain ⟨u, rfl, ru⟩ := h d e
  exact ⟨a, u, rfl, g, q u H3 (s2.trans s3) ru⟩
theorem ev_dinT (hk : Ev ty σ H (Dd (tupS k))) (hd : Ev td σ H (Dt l)) : Ev (tDIn ty td) σ H (Dd (.bool (al l k).isSome)) := fun H1 s Q q => hk H1 s _ fun y H2 s2 p => hd H2 (s.trans s2) _ fun x H3 s3 p3 => by
  obtain ⟨a, o, rfl, g, e, _⟩ := dt_get p3 (p.sm s3)
  exact ⟨a, o, rfl, g, q _ H3 (s2.trans s3) (by rw [e]; exact .bl _)⟩
theorem ev_dinK (hk : Ev ty σ H (Dd (.str x))) (hd : Ev td σ H (Dk lk)) : Ev (tDIn ty td) σ H (Dd (.bool (al lk x).isSome)) := fun H1 s Q q => hk H1 s _ fun y H2 s2 p => hd H2 (s.trans s2) _ fun x H3 s3 p3 => by
  obtain ⟨a, o, rfl, g, e, _⟩ := dk_get p3 (p.sm s3)
  exact ⟨a, o, rfl, g, q _ H3 (s2.trans s3) (by rw [e]; exact .bl _)⟩
theorem ev_dnotT (hk : Ev ty σ H (Dd (tupS k))) (hd : Ev td σ H (Dt l)) : Ev (tDNotIn ty td) σ H (Dd (.bool (!(al l k).isSome))) := fun H1 s Q q => hk H1 s _ fun y H2 s2 p => hd H2 (s.trans s2) _ fun x H3 s3 p3 => by
  obtain ⟨a, o, rfl, g, e, _⟩ := dt_get p3 (p.sm s3)
  exact ⟨a, o, rfl, g, q _ H3 (s2.trans s3) (by rw [e]; exact .bl _)⟩
theorem ev_dnotK (hk : Ev ty σ H (Dd (.str x))) (hd : Ev td σ H (Dk lk)) : Ev (tDNotIn ty td) σ H (Dd (.bool (!(al lk x).isSome))) := fun H1 s Q q => hk H1 s _ fun y H2 s2 p => hd H2 (s.trans s2) _ fun x H3 s3 p3 => by
  obtain ⟨a, o, rfl, g, e, _⟩ := dk_get p3 (p.sm s3)
  exact ⟨a, o, rfl, g, q _ H3 (s2.trans s3) (by rw [e]; exact .bl _)⟩
/-- d.get(x, d0) -/
theorem ev_dgetK2 {d0 : PyData} (hd : Ev td σ H (Dk lk)) (hk : Ev ty σ H (Dd (.str x))) (hx : Ev tx σ H (Dd d0)) : Ev (tDGet2 td ty tx) σ H (Dd ((al lk x).getD d0)) := fun H1 s Q q => hd H1 s _ fun x' H2 s2 p => by
  obtain ⟨a, kvs, e, rd, kv⟩ := id p
  refine ⟨a, e, .inl ⟨kvs, rd⟩, hk H2 (s.trans s2) _ fun y H3 s3 p3 => hx H3 ((s.trans s2).trans s3) _ fun z H4 s4 p4 => ?_⟩
  have p' := stb_dk lk x' H2 H4 (s3.trans s4) p
  obtain ⟨a', o, e', g, is, h⟩ := dk_get p' (p3.sm s4)
  rw [e] at e'
  cases e'
  refine ⟨o, g, q _ H4 ((s2.trans s3).trans s4) ?_⟩
  cases ho : al lk x with
  | none =>
    rw [ho] at is
    cases o with
    | none => exact p4
    | some u => cases is
  | some d =>
    obtain ⟨u, rfl, ru⟩ := h d ho
    exact ru
end
/-! writing -/
def DT (H : Hp) (a : Addr) (l : List (List Str × PyData)) : Prop := ∃ kvs, H a = some (.dT kvs) ∧ KvR H tk kvs l
def DK (H : Hp) (a : Addr) (l : List (Str × PyData)) : Prop := ∃ kvs, H a = some (.dK kvs) ∧ KvR H sk kvs l
theorem DT.dt {H : Hp} {a : Addr} {l : List (List Str × PyData)} (h : DT H a l) : Dt l (.ref a) H := let ⟨kvs, h1, h2⟩ := h; ⟨a, kvs, rfl, .inl h1, h2⟩
theorem DK.dk {H : Hp} {a : Addr} {l : List (Str × PyData)} (h : DK H a l) : Dk l (.ref a) H := let ⟨kvs, h1, h2⟩ := h; ⟨a, kvs, rfl, .inl h1, h2⟩
theorem DT.sm {H H' : Hp} {a : Addr} {l : List (List Str × PyData)} (s : Same H H') (h : DT H a l) : DT H' a l := let ⟨kvs, h1, h2⟩ := h; ⟨kvs, s _ _ h1, h2.sm s⟩
theorem DK.sm {H H' : Hp} {a : Addr} {l : List (Str × PyData)} (s : Same H H') (h : DK H a l) : DK H' a l := let ⟨kvs, h1, h2⟩ := h; ⟨kvs, s _ _ h1, h2.sm s⟩
theorem tk_dT {H : Hp} {a : Addr} {l : List (List Str × PyData)} {o : HO} (h : DT H a l) : Tk H (upd H a o) := by
  obtain ⟨kvs, h1, _⟩ := h
  exact tk_upd fun xs z => by rw [h1] at z; cases z
theorem tk_dK {H : Hp} {a : Addr} {l : List (Str × PyData)} {o : HO} (h : DK H a l) : Tk H (upd H a o) := by
  obtain ⟨kvs, h1, _⟩ := h
  exact tk_upd fun xs z => by rw [h1] at z; cases z
theorem DT.put {H : Hp} {a : Addr} {l : List (List Str × PyData)} {k : List Str} {y v : V} {d : PyData} (h : DT H a l) (hk : Rp H y (tupS k)) (hv : Rp H v d) (hz : l.length ≤ 50000) : ∃ H', DPut H a y v H' ∧ DT H' a (aput l k d) ∧ ∃ o, H' = upd H a o := by
  have t := fun o => tk_dT (o := o) h
  obtain ⟨kvs, h1, h2⟩ := h
  obtain ⟨b, rfl, hb⟩ := rp_tupS hk
  refine ⟨_, DPut.t (k := tk k) h1 (by rw [tk_kV]; exact hb) (by rw [h2.len]; exact Nat.lt_of_le_of_lt hz (by decide)), ⟨_, upd_same, ((h2.put tk_inj hv).up (t _))⟩, _, rfl⟩
theorem DK.put {H : Hp} {a : Addr} {l : List (Str × PyData)} {x : Str} {y v : V} {d : PyData} (h : DK H a l) (hk : Rp H y (.str x)) (hv : Rp H v d) (hz : l.length ≤ 50000) : ∃ H', DPut H a y v H' ∧ DK H' a (aput l x d) ∧ ∃ o, H' = upd H a o := by
  have t := fun o => tk_dK (o := o) h
  obtain ⟨kvs, h1, h2⟩ := h
  rw [rp_str hk]
  exact ⟨_, DPut.k (k := sk x) h1 (by rw [h2.len]; exact Nat.lt_of_le_of_lt hz (by decide)), ⟨_, upd_same, ((h2.put sk_inj hv).up (t _))⟩, _, rfl⟩
section
variable {σ : L2.St} {H : Hp} {td ty tv : TE} {D : Ends} {a : Addr} {d : PyData}
/-- a[k] = v as a statement: what is in H stays but for a -/
theorem s_dputT {l : List (List Str × PyData)} {k : List Str} (hv : Ev tv σ H (Dd d)) (hd : Ev td σ H (Ex (.ref a))) (hk : Ev ty σ H (Dd (tupS k))) (h : DT H a l) (hz : l.length ≤ 50000)
    (q : ∀ H1 o, Same H H1 → DT (upd H1 a o) a (aput l k d) → D.nx σ (upd H1 a o)) : sDPut td ty tv D σ H := hv H (Same.refl _) _ fun v H1 s1 p1 => hd H1 s1 _ fun x H2 s2 p2 => hk H2 (s1.trans s2) _ fun y H3 s3 p3 => by
  obtain rfl : x = .ref a := p2
  have s := (s1.trans s2).trans s3
  obtain ⟨H', g, t, o, rfl⟩ := (h.sm s).put p3 (p1.sm (s2.trans s3)) hz
  exact ⟨a, _, rfl, g, q H3 o s t⟩
theorem s_dputK {l : List (Str × PyData)} {k : Str} (hv : Ev tv σ H (Dd d)) (hd : Ev td σ H (Ex (.ref a))) (hk : Ev ty σ H (Dd (.str k))) (h : DK H a l) (hz : l.length ≤ 50000)
    (q : ∀ H1 o, Same H H1 → DK (upd H1 a o) a (aput l k d) → D.nx σ (upd H1 a o)) : sDPut td ty tv D σ H := hv H (Same.refl _) _ fun v H1 s1 p1 => hd H1 s1 _ fun x H2 s2 p2 => hk H2 (s1.trans s2) _ fun y H3 s3 p3 => by
  obtain rfl : x = .ref a := p2
  have s := (s1.trans s2).trans s3
  obtain ⟨H', g, t, o, rfl⟩ := (h.sm s).put p3 (p1.sm (s2.trans s3)) hz
  exact ⟨a, _, rfl, g, q H3 o s t⟩
end
/-- the lock -/
theorem dt_frz {H : Hp} {L : Addr} {kvs : List (List Key × V)} {od : Obj} {l : List (List Str × PyData)} (h : H L = some (.dT kvs)) (kv : KvR H tk kvs l) {H' : Hp} (s : Same (upd H L (.frz od (.dT kvs))) H') : Tk H H' ∧ Dt l (.ref L) H' := by
  have t : Tk H (upd H L (.frz od (.dT kvs))) := tk_upd fun xs z => by rw [h] at z; cases z
  exact ⟨t.trans (tk_same s), L, kvs, rfl, .inr ⟨od, s _ _ upd_same⟩, (kv.up t).sm s⟩
theorem same_unlock {H H' : Hp} {L : Addr} {u o : HO} (h : H L = some u) (s : Same (upd H L o) H') : Same H (upd H' L u) := fun a v e => by
  by_cases z : a = L
  · subst z
    rw [h] at e
    cases e
    exact upd_same
  · rw [upd_ne z]
    exact s a v (by rw [upd_ne z]; exact e)
end Qt
/-! Qdc: a dict comprehension whose new dict is told by a word of one's own (here: tuples as keys). The walk of the block is that of HandS.DictComp's dc_core, with the new dict's form and its store left open. -/
namespace Qt
open PySem PySem.Spec PyProof.Rows L2
/-- how a dict comprehension's dict at D starts (o0) and how it takes one pair (pt) -/
structure DcW (X : Cx) (o0 : HO) (pt : Hp → Addr → V → V → (Hp → Prop) → Prop) : Prop where
  new : ∀ (P : Program) (w : World) (H : Hp) (h : Heap), sysModules < h.objs.size → ObjOk P w H (h.push { cls := .type "dict", data := .dict #[] }) h.objs.size o0
  put : ∀ (Y : Cx), Y.A = X.A → ∀ (pins : List (Addr × Obj)) (σ : L2.St) (H : Hp) (s : Shared) (E : Value → Shared → Prop) (D : Addr) (y v : V) (u r : Value) (Nx : Hp → Prop) (Q : Unit → Shared → Prop), Inv Y pins σ H s → RelV y u → RelV v r → pt H D y v Nx →
    (∀ s' H', Nx H' → Inv Y pins σ H' s' → Q () s') → wpAny (model Y.prog Y.w) X.A (dictSet D u r) Q E s
section
variable {X : Cx} {o0 : HO} {pt : Hp → Addr → V → V → (Hp → Prop) → Prop}
def tDcW (o0 : HO) (pt : Hp → Addr → V → V → (Hp → Prop) → Prop) (wi : TI) (g : TG) (tt : TT) (tkx tv : TE) (vs : List Nat) : TE := fun σ H Q => wi σ H fun J H1 => ∀ D, H1 D = none → ∃ W : Nat → Nat → Hp → Prop, (∃ m, W 0 m (upd H1 D o0)) ∧ ∀ i m H, W i m H →
  (J.stop i H ∧ Q (.ref D) H) ∨ (J.go i H ∧ ∃ Nx : Hp → Prop, (∀ H', Nx H' → ∃ m', m' < m ∧ W (i + 1) m' H') ∧ ∀ x H', J.yld i H x H' → g x (wipe σ vs) H' fun σ2 H2 => wipe σ2 vs = wipe σ vs ∧ tt σ2 H2 fun b H3 =>
    if b = true then tkx σ2 H3 fun y H4 => tv σ2 H4 fun z H5 => pt H5 D y z Nx else Nx H3)
theorem dcw_core {pins : List (Addr × Obj)} {s : Shared} {σ : L2.St} {H : Hp} {Q : VK} {kx vx tg iter : Expr} {ifs : List Expr} {scope : Scope} {own : List (Str × Nat)} {pos pos' : Pos} {wi : TI} {g : TG} {tt : TT} {tkx tv : TE} {use : Option (Value → Sem Unit)} {Qf : Value → Shared → Prop}
    (cw : DcW X o0 pt) (hc : X.calm = true) (hN : X.N.Nodup) (I : Inv X pins σ H s) (hi : PI X tg iter wi) (ok : BlkOk X.N X.env.scope scope own)
    (hg : ∀ (s : Shared) (H : Hp) (C : Addr) (cl : List (Str × Addr)) (fp : List Addr), PG (X.blk s H scope (compEnvC scope cl C X.env) fp) tg g) (ht : ∀ (s : Shared) (H : Hp) (C : Addr) (cl : List (Str × Addr)) (fp : List Addr), PTs (X.blk s H scope (compEnvC scope cl C X.env) fp) ifs tt)
    (hk : ∀ (s : Shared) (H : Hp) (C : Addr) (cl : List (Str × Addr)) (fp : List Addr), PE (X.blk s H scope (compEnvC scope cl C X.env) fp) kx tkx)
    (he : ∀ (s : Shared) (H : Hp) (C : Addr) (cl : List (Str × Addr)) (fp : List Addr), PE (X.blk s H scope (compEnvC scope cl C X.env) fp) vx tv) (hs : ∀ x, foldedSetIterable iter X.env x = pure x)
    (h : tDcW o0 pt wi g tt tkx tv (own.map (·.2)) σ H Q)
    (hRR : ∀ D C s' m H', Inv X pins σ H' s' → Q (.ref D) H' → s'.heap.Ns C m → FpOk X pins H' C → compPost (model X.prog X.w) X.A X.xe use Qf (.ref D) C (.ok .next) s') :
    wpAny (model X.prog X.w) X.A (comprehension (.DictComp kx vx [⟨tg, iter, ifs, 0⟩] scope pos) scope X.env pos' newDict false (eval iter X.env) use) Qf X.xe s := by
  have hfree : ∀ y ∈ scope.names, y.2 = .free → ∃ c, X.env.cells.lookup y.1 = some c := fun y hy e => (ok.free y hy e).elim (fun k => I.ok.has _ (.inl k)) fun k => I.ok.has _ (.inr k)
  refine wpAny_comprehension_free (use := use) rfl hs (closure_ok hfree) ok.kind (fun y hy e => by rw [ok.uniq y hy, e]) (thn (hi.run pins s σ H _ I h) fun xv s1 hx => thn hx fun itv s2 ⟨it, fp, tn, J, H2, e, I2, T, st2, f2, q⟩ => ?_)
  subst e
  refine wpAny_newObj_type (newEnv_comp ?_)
  generalize hD : s2.heap.objs.size = D
  have hDn : H2 D = none := I2.hok.fresh (Nat.le_of_eq hD)
  obtain ⟨W, ⟨m0, w0⟩, turn⟩ := q D hDn
  generalize hs3 : ({ s2 with heap := s2.heap.push { cls := .type "dict", data := .dict #[] } } : Shared) = s3
  have h3 : s3.heap = s2.heap.push { cls := .type "dict", data := .dict #[] } := by rw [← hs3]
  have I3 : Inv X pins σ (upd H2 D o0) s3 := by
    rw [← hs3]
    refine I2.laid (t' := s2.toks) (fun b o e => Heap.get?_push_of_some _ e) (Nat.le_of_eq hD) ?_
    have z := cw.new X.prog X.w (upd H2 D o0) s2.heap I2.big
    rw [hD] at z
    exact z
  have sz : ∀ b ∈ fp, b < s2.heap.objs.size := fun b hb => (T.obj _ _ st2 b hb).elim fun o e => Heap.lt_size e.1
  have f3 : ∀ b ∈ fp, FpOk X pins (upd H2 D o0) b ∧ b < s3.heap.objs.size := fun b hb => by
    have hlt := sz b hb
    have nb : b ≠ D := by rw [← hD]; exact Nat.ne_of_lt hlt
    exact ⟨⟨by rw [upd_ne nb]; exact (f2 b hb).1, (f2 b hb).2⟩, by rw [h3, Heap.size_push]; exact Nat.lt_succ_of_lt hlt⟩
  have st3 : tn 0 s3.heap := T.keep _ _ _ st2 fun b _ o e => by rw [h3]; exact Heap.get?_push_of_some _ e
  have I4 := block_start I3 ok hN f3
  have pg := hg s3 (upd H2 D o0) s3.heap.objs.size (cellsFrom (s3.heap.objs.size + 1) scope.names (cloFrom X.env.cells scope.names [])) fp
  have ptt := ht s3 (upd H2 D o0) s3.heap.objs.size (cellsFrom (s3.heap.objs.size + 1) scope.names (cloFrom X.env.cells scope.names [])) fp
  have pk := hk s3 (upd H2 D o0) s3.heap.objs.size (cellsFrom (s3.heap.objs.size + 1) scope.names (cloFrom X.env.cells scope.names [])) fp
  have pe := he s3 (upd H2 D o0) s3.heap.objs.size (cellsFrom (s3.heap.objs.size + 1) scope.names (cloFrom X.env.cells scope.names [])) fp
  show codeAny _ _ (.compStart (.DictComp kx vx [⟨tg, iter, ifs, 0⟩] scope pos) 0 (.ref it) (.ref D) (compEnvC scope (cellsFrom (s3.heap.objs.size + 1) scope.names (cloFrom X.env.cells scope.names [])) s3.heap.objs.size X.env)) (compPost (model X.prog X.w) X.A X.xe use Qf (.ref D) s3.heap.objs.size) { s3 with heap := pushCells (s3.heap.push { cls := .type "dict", data := .dict #[] }) scope.names }
  have nfp : ∀ b ∈ fp, (upd H2 D o0) b = none := fun b hb => (f3 b hb).1.1
  generalize hce : compEnvC scope (cellsFrom (s3.heap.objs.size + 1) scope.names (cloFrom X.env.cells scope.names [])) s3.heap.objs.size X.env = ce at I4 pg ptt pk pe ⊢
  have cL : ce.locals = s3.heap.objs.size := by subst hce; rfl
  generalize hH3 : upd H2 D o0 = H3 at I3 I4 pg ptt pk pe w0 nfp f3
  generalize hs4 : ({ s3 with heap := pushCells (s3.heap.push { cls := .type "dict", data := .dict #[] }) scope.names } : Shared) = s4 at I4 ⊢
  have st4 : tn 0 s4.heap := T.keep _ _ _ st3 fun b _ o e => by rw [← hs4]; exact pushCells_keeps _ _ _ _ (Heap.get?_push_of_some _ e)
  -- where the iterator stands
  have stat : ∀ {σ' : L2.St} {H' : Hp} {s' : Shared}, Inv (X.blk s3 H3 scope ce fp) [] σ' H' s' → (∀ b ∈ fp, H' b = none) → ∀ b ∈ fp, FpOk (X.blk s3 H3 scope ce fp) [] H' b := fun {σ' H' s'} I' hn b hb =>
    ⟨hn b hb, (I'.ok.exf b hb).1, I'.ok.exfs b hb, .inl hb, fun x c e => (I'.ok.exf b hb).2 x c e, fun p hp => absurd (show p ∈ ([] : List (Addr × Obj)) ++ [] from hp) (by simp)⟩
  have loop : codeAny (model X.prog X.w) X.A (.compLoop (.DictComp kx vx [⟨tg, iter, ifs, 0⟩] scope pos) 0 (.ref it) (.ref D) ce) (compPost (model X.prog X.w) X.A X.xe use Qf (.ref D) s3.heap.objs.size) s4 := by
    refine compLoop_anyD (fun n s' => ∃ i H', Inv (X.blk s3 H3 scope ce fp) [] (wipe σ (own.map (·.2))) H' s' ∧ tn i s'.heap ∧ (∀ b ∈ fp, H' b = none) ∧ W i n H') ?_ m0 ⟨0, H3, I4, st4, nfp, w0⟩
    rintro n s5 ⟨i, H5, I5, st5, n5, w5⟩
    rcases turn i n H5 w5 with ⟨stop, qq⟩ | ⟨go, Nx, hNx, step⟩
    · refine thnF (T.done (X.blk s3 H3 scope ce fp) rfl rfl rfl hc i [] s5 _ H5 (fun _ _ => False) I5 (stat I5 n5) st5 stop) fun r s6 ⟨hr, I6⟩ => ?_
      subst hr
      have I7 : Inv X pins σ H5 s6 := I3.call' (ch := fp) I6.os I6.base I6.hok I6.bare fun b hb => ⟨(f3 b hb).1.2.2.2.1, (f3 b hb).1.2.1, (f3 b hb).1.2.2.2.2.1, (f3 b hb).1.2.2.2.2.2⟩
      have nC : H5 s3.heap.objs.size = none := cL ▸ (show H5 ce.locals = none from I6.free)
      obtain ⟨m, hn, _⟩ := I6.loc
      have hn : s6.heap.Ns ce.locals m := hn
      rw [cL] at hn
      exact hRR D s3.heap.objs.size s6 m H5 I7 qq hn (I3.fpOk (Nat.le_refl _) nC)
    · refine thnF (T.item (X.blk s3 H3 scope ce fp) rfl rfl rfl hc i [] s5 _ H5 (fun _ _ => False) I5 (stat I5 n5) st5 go) fun r s6 ⟨u, hr, h6⟩ => ?_
      subst hr
      refine thnF h6 fun _ s7 ⟨x, H7, I7, r7, y7, st7, n7⟩ => ?_
      have I7' := I7.pinned (stat I7 n7) (T.obj _ _ st7)
      refine thnF (pg.run _ s7 _ H7 x u _ I7' r7 (step x H7 y7)) fun _ s8 ⟨σ8, H8, I8, hw8, q8⟩ => ?_
      refine thnF (ptt.run _ s8 σ8 H8 _ I8 q8) fun b s9 ⟨H9, I9, q9⟩ => ?_
      have fin : ∀ {s' : Shared} {H' : Hp}, Inv (X.blk s3 H3 scope ce fp) ([] ++ pinsAt fp s7.heap) σ8 H' s' → Nx H' → ∃ m, m < n ∧ ∃ i H', Inv (X.blk s3 H3 scope ce fp) [] (wipe σ (own.map (·.2))) H' s' ∧ tn i s'.heap ∧ (∀ b ∈ fp, H' b = none) ∧ W i m H' := fun {s' H'} I' nx => by
        obtain ⟨m', hm, w'⟩ := hNx H' nx
        have pin' : ∀ b ∈ fp, ∀ o, s7.heap.get? b = some o → s'.heap.get? b = some o ∧ H' b = none := fun b hb o e =>
          let z := I'.pin (b, o) (List.mem_append_right _ (List.mem_append_right _ (mem_pinsAt hb e)))
          ⟨z.1, z.2.1⟩
        refine ⟨m', hm, i + 1, H', (I'.unpinned (pins := [])).weak (by rw [← hw8, wipe_length]) (fun j v e => ?_), T.keep _ _ _ st7 fun b hb o e => (pin' b hb o e).1, fun b hb => ?_, w'⟩
        · rw [← hw8] at e
          exact (wipe_some e).1
        · obtain ⟨o, e, _⟩ := T.obj _ _ st7 b hb
          exact (pin' b hb o e).2
      cases b with
      | false =>
        simp only [Bool.false_eq_true, if_false] at q9 ⊢
        exact fin I9 q9
      | true =>
        simp only [if_true] at q9 ⊢
        refine thnF (pk.run _ s9 σ8 H9 _ I9 q9) fun z s10 ⟨yk, H10, I10, r10, q10⟩ => ?_
        refine thnF (pe.run _ s10 σ8 H10 _ I10 q10) fun z2 s11 ⟨yv, H11, I11, r11, q11⟩ => ?_
        exact cw.put (X.blk s3 H3 scope ce fp) rfl _ _ _ _ _ _ _ _ _ _ Nx _ I11 r10 r11 q11 fun s12 H12 nx I12 => fin I12 nx
  exact codeAny_compStart_dict loop (T.self X.A 0 _ _ _ st4 loop)
theorem pe_dcW {kx vx tg iter : Expr} {ifs : List Expr} {scope : Scope} {own : List (Str × Nat)} {pos : Pos} {wi : TI} {g : TG} {tt : TT} {tkx tv : TE} (cw : DcW X o0 pt) (hc : X.calm = true) (hN : X.N.Nodup) (hi : PI X tg iter wi) (ok : BlkOk X.N X.env.scope scope own)
    (hg : ∀ (s : Shared) (H : Hp) (C : Addr) (cl : List (Str × Addr)) (fp : List Addr), PG (X.blk s H scope (compEnvC scope cl C X.env) fp) tg g) (ht : ∀ (s : Shared) (H : Hp) (C : Addr) (cl : List (Str × Addr)) (fp : List Addr), PTs (X.blk s H scope (compEnvC scope cl C X.env) fp) ifs tt)
    (hk : ∀ (s : Shared) (H : Hp) (C : Addr) (cl : List (Str × Addr)) (fp : List Addr), PE (X.blk s H scope (compEnvC scope cl C X.env) fp) kx tkx)
    (he : ∀ (s : Shared) (H : Hp) (C : Addr) (cl : List (Str × Addr)) (fp : List Addr), PE (X.blk s H scope (compEnvC scope cl C X.env) fp) vx tv) (hs : ∀ x, foldedSetIterable iter X.env x = pure x := by intro _; rfl) :
    PE X (.DictComp kx vx [⟨tg, iter, ifs, 0⟩] scope pos) (tDcW o0 pt wi g tt tkx tv (own.map (·.2))) := ⟨fun pins s σ H Q I h => by
  rw [arm_eval_DictComp]
  refine dcw_core cw hc hN I hi ok hg ht hk he hs h fun D C s' m H' I' q hn f => ⟨m, hn, fun h'' sb => ?_⟩
  exact ⟨.ref D, H', I'.turned (t' := s'.toks) (fun b o hb e => (sb.2 b hb).trans e) f.1 f.2.1 f.2.2.2.1 f.2.2.2.2.1 f.2.2.2.2.2, rfl, q⟩⟩
/-- tuples of texts and ints as keys -/
def ptT : Hp → Addr → V → V → (Hp → Prop) → Prop := fun H D y v Nx => ∃ kvs k b, y = .ref b ∧ H b = some (.tup (k.map kV)) ∧ H D = some (.dT kvs) ∧ kvs.length < sizeLine ∧ Nx (upd H D (.dT (putK kvs k v)))
theorem dcw_T (hu : X.A.units < cLine) : DcW X (.dT []) ptT where
  new := fun P w H h hb => dt_empty h hb
  put := fun Y hY pins σ H s E D y v u r Nx Q I ry rv ⟨kvs, k, b, ey, eb, eD, hl, nx⟩ hQ => by
    subst ey
    cases (show u = Value.ref b from ry)
    obtain ⟨z, hd, xs, rel, dd⟩ := dt_of I.hok eD
    have hz : xs.length ≤ sizeLine := by rw [← Paired.length rel]; exact z
    have hl2 : (putK kvs k v).length ≤ sizeLine := by have := length_putK kvs k v; omega
    refine wpAny_dictSet_heap (hsz := hz) (knd := tupleKind (mixKind Y.prog Y.w)) hu (key_of I.hok eb) dd fun h' dd' hs => hQ _ _ nx ?_
    obtain ⟨q, es, ep, hq, h2, h3, h4, _, h5⟩ := dd'
    refine d_write I (by rw [eD]; exact True.intro) hs ⟨q, hq⟩ ⟨hl2, hd, _, (rel.put k eb rv).keeps fun c ys ec => ?_, q, es, ep, hq, h2, h3, h4, h5⟩
    rw [upd_ne (ne_of ec eD (fun z => nomatch z))]
    exact ec
end
end Qt
/-! Qh: loops by data, distances_to. -/
namespace Qt
open PySem PySem.Spec PyProof.Rows L2
/-! ### association lists, keys embedded -/
section
variable {κ κ' : Type} [DecidableEq κ] [DecidableEq κ'] {β γ : Type}
def aemb (φ : κ → κ') (g : β → γ) (l : List (κ × β)) : List (κ' × γ) := l.map fun p => (φ p.1, g p.2)
theorem al_emb {φ : κ → κ'} (inj : ∀ a b, φ a = φ b → a = b) (g : β → γ) (k : κ) : ∀ l : List (κ × β), al (aemb φ g l) (φ k) = (al l k).map g
  | [] => rfl
  | p :: r => by
    show al ((φ p.1, g p.2) :: aemb φ g r) (φ k) = _
    by_cases e : p.1 = k
    · rw [al_pos (p := (φ p.1, g p.2)) (congrArg φ e), al_pos e] <;> rfl
    · rw [al_neg (p := (φ p.1, g p.2)) (fun z => e (inj _ _ z)), al_neg e, al_emb inj]
theorem emb_put {φ : κ → κ'} (inj : ∀ a b, φ a = φ b → a = b) (g : β → γ) (l : List (κ × β)) (k : κ) (y : β) : aemb φ g (aput l k y) = aput (aemb φ g l) (φ k) (g y) := by
  have e : (al (aemb φ g l) (φ k)).isSome = (al l k).isSome := by rw [al_emb inj, Option.isSome_map]
  unfold aput
  rw [e]
  split
  · unfold aemb
    rw [List.map_map, List.map_map]
    refine List.map_congr_left fun p _ => ?_
    show (fun p => (φ p.1, g p.2)) (if p.1 = k then (p.1, y) else p) = if φ p.1 = φ k then (φ p.1, g y) else (φ p.1, g p.2)
    by_cases z : p.1 = k
    · rw [if_pos z, if_pos (congrArg φ z)]
    · rw [if_neg z, if_neg (fun q => z (inj _ _ q))]
  · unfold aemb
    rw [List.map_append] <;> rfl
end
/-- a pair as a key -/
def pk (p : Str × Str) : List Str := [p.1, p.2]
theorem pk_inj (p q : Str × Str) (h : pk p = pk q) : p = q := by
  injection h with h1 h2
  injection h2 with h2 _
  exact Prod.ext h1 h2
abbrev Le := List ((Str × Str) × Int)
abbrev Di := List (Str × Int)
def leD (l : Le) : List (List Str × PyData) := aemb pk PyData.int l
def diD (d : Di) : List (Str × PyData) := aemb id PyData.int d
theorem al_leD (l : Le) (p : Str × Str) : al (leD l) (pk p) = (al l p).map PyData.int := al_emb pk_inj _ _ _
theorem al_diD (d : Di) (x : Str) : al (diD d) x = (al d x).map PyData.int := al_emb (φ := id) (fun _ _ h => h) _ _ _
theorem leD_put (l : Le) (p : Str × Str) (i : Int) : leD (aput l p i) = aput (leD l) (pk p) (.int i) := emb_put pk_inj _ _ _ _
theorem diD_put (d : Di) (x : Str) (i : Int) : diD (aput d x i) = aput (diD d) x (.int i) := emb_put (φ := id) (fun _ _ h => h) _ _ _ _
/-! ### all but one -/
def SmX (F : Addr) (H H' : Hp) : Prop := ∀ a u, a ≠ F → H a = some u → H' a = some u
theorem SmX.refl {F : Addr} (H : Hp) : SmX F H H := fun _ _ _ h => h
theorem SmX.trans {F : Addr} {H H1 H2 : Hp} (a : SmX F H H1) (b : SmX F H1 H2) : SmX F H H2 := fun c u n h => b c u n (a c u n h)
theorem SmX.of {F : Addr} {H H' : Hp} (s : Same H H') : SmX F H H' := fun a u _ h => s a u h
theorem SmX.upd {F : Addr} {H H' : Hp} {o : HO} (s : SmX F H H') : SmX F H (upd H' F o) := fun a u n h => by
  rw [upd_ne n]
  exact s a u n h
theorem SmX.same {F : Addr} {H0 H H' : Hp} (s0 : Same H0 H) (n : H0 F = none) (s : SmX F H H') : Same H0 H' := fun a u h => s a u (ne_of_none h n) (s0 a u h)
theorem SmX.tk {F : Addr} {H H' : Hp} (s : SmX F H H') (n : ∀ xs, H F ≠ some (.tup xs)) : Tk H H' := fun a xs h => s a _ (fun e => n xs (e ▸ h)) h
/-! ### loops -/
section
variable {K : PySem.W.Frag} {σ : L2.St} {H : Hp} {tl : TE} {g : TG} {tb : TS} {D : Ends} {ds : List PyData}
/-- over a tuple of data; Pv: the word at turn i, on the heap H1 behind the tuple -/
theorem s_forT (h : Ev tl σ H (Dd (.tuple ds))) (Pv : Hp → Nat → L2.St → Hp → Prop) (h0 : ∀ H1, Same H H1 → Pv H1 0 σ H1) (ht : ∀ H1 i σ' H', Same H H1 → Pv H1 i σ' H' → Tk H1 H')
    (turn : ∀ H1 i d v σ' H', Same H H1 → ds[i]? = some d → Pv H1 i σ' H' → Rp H' v d → g v σ' H' fun σ2 H2 => tb { D with nx := Pv H1 (i + 1), ct := Pv H1 (i + 1), bk := D.nx } σ2 H2)
    (done : ∀ H1 σ' H', Same H H1 → Pv H1 ds.length σ' H' → D.nx σ' H') : tFor (iTup K tl) g tb D σ H := h H (Same.refl _) _ fun v H1 s1 p => by
  obtain ⟨a, xs, rfl, h1, h2⟩ := rp_tup p
  refine ⟨a, rfl, ⟨xs, SqT.of h1⟩, for_it walk_tup (fun i σ' H' => Pv H1 i σ' H') (h0 H1 s1) (fun i σ' H' _ q => SqT.of (ht H1 i σ' H' s1 q a _ h1)) (fun i x σ' H2 H3 hi q y => ?_) (fun σ' H' q => ?_)⟩
  · obtain ⟨rfl, hx⟩ := y
    obtain ⟨d, hd, rd⟩ := h2.at_ hx
    exact turn H1 i d x σ' H3 s1 hd q (rd.up (ht H1 i σ' H3 s1 q))
  · rw [h2.length] at q
    exact done H1 σ' H' s1 q
/-- over a list of data that stays -/
theorem s_forL (h : Ev tl σ H (Ls ds)) (Pv : Hp → Nat → L2.St → Hp → Prop) (h0 : ∀ H1, Same H H1 → Pv H1 0 σ H1) (ht : ∀ H1 i σ' H', Same H H1 → Pv H1 i σ' H' → Tk H1 H') (hl : ∀ H1 p xs i σ' H', H1 p = some (.lst xs) → RpAll H1 xs ds → Same H H1 → Pv H1 i σ' H' → H' p = some (.lst xs))
    (turn : ∀ H1 i d v σ' H', Same H H1 → ds[i]? = some d → Pv H1 i σ' H' → Rp H' v d → g v σ' H' fun σ2 H2 => tb { D with nx := Pv H1 (i + 1), ct := Pv H1 (i + 1), bk := D.nx } σ2 H2)
    (done : ∀ H1 σ' H', Same H H1 → Pv H1 ds.length σ' H' → D.nx σ' H') : tFor (iList K tl) g tb D σ H := h H (Same.refl _) _ fun v H1 s1 p => by
  obtain ⟨a, xs, rfl, h1, h2⟩ := p
  refine ⟨a, rfl, ⟨xs, SqL.of h1⟩, for_it walk_list (fun i σ' H' => Pv H1 i σ' H') (h0 H1 s1) (fun i σ' H' _ q => SqL.of (hl H1 a xs i σ' H' h1 h2 s1 q)) (fun i x σ' H2 H3 hi q y => ?_) (fun σ' H' q => ?_)⟩
  · obtain ⟨rfl, hx⟩ := y
    obtain ⟨d, hd, rd⟩ := h2.at_ hx
    exact turn H1 i d x σ' H3 s1 hd q (rd.up (ht H1 i σ' H3 s1 q))
  · rw [h2.length] at q
    exact done H1 σ' H' s1 q
/-- over range(n) -/
theorem s_forR {ta : TA} {n : Nat} (h : EvA ta σ H [Dd (.int n)]) (hn : n ≤ 1000000) (Pv : Hp → Nat → L2.St → Hp → Prop) (h0 : ∀ H1, Same H H1 → Pv H1 0 σ H1)
    (turn : ∀ H1 i σ' H', Same H H1 → i < n → Pv H1 i σ' H' → g (.int i) σ' H' fun σ2 H2 => tb { D with nx := Pv H1 (i + 1), ct := Pv H1 (i + 1), bk := D.nx } σ2 H2)
    (done : ∀ H1 σ' H', Same H H1 → Pv H1 n σ' H' → D.nx σ' H') : tFor (iRng1 ta) g tb D σ H := h H (Same.refl _) _ fun vs H1 s1 p => by
  obtain ⟨v, r, rfl, p1, rfl⟩ := p
  refine ⟨n, by rw [rp_int p1], by omega, by omega, for_it walk_range (fun i σ' H' => Pv H1 i σ' H') (h0 H1 s1) (fun _ _ _ _ _ => True.intro) (fun i x σ' H2 H3 hi q y => ?_) (fun σ' H' q => done H1 σ' H' s1 (by simpa using q))⟩
  obtain ⟨rfl, rfl⟩ := y
  rw [Int.toNat_natCast] at hi
  show g (.int (0 + (i : Int))) σ' H3 _
  rw [Int.zero_add]
  exact turn H1 i σ' H3 s1 hi q
/-- over the keys of the dict at L, locked -/
theorem s_forK {j : Nat} {L : Addr} {kvs : List (List Key × V)} {l : List (List Str × PyData)} (hv : σ[j]? = some (some (.ref L))) (hL : H L = some (.dT kvs)) (kv : KvR H tk kvs l) (Pv : Obj → Nat → L2.St → Hp → Prop)
    (h0 : ∀ od, Pv od 0 σ (upd H L (.frz od (.dT kvs)))) (hf : ∀ od i σ' H', Pv od i σ' H' → H' L = some (.frz od (.dT kvs))) 
    (turn : ∀ od i k d v σ' H' R B, l[i]? = some (k, d) → Pv od i σ' H' → Rp H' v (tupS k) → g v σ' H' fun σ2 H2 => tb ⟨Pv od (i + 1), R, B, Pv od (i + 1)⟩ σ2 H2)
    (done : ∀ od σ' H', Pv od l.length σ' H' → D.nx σ' (upd H' L (.dT kvs))) : tLock (tFor (iKeys (tVar j)) g tb) D σ H := by
  refine ⟨L, _, hL, True.intro, fun od => ?_⟩
  refine ⟨.ref L, hv, L, od, rfl, .inr ⟨kvs, upd_same, for_it walk_keysT (Pv od) (h0 od) (fun i σ' H' _ q => hf od i σ' H' q) (fun i x σ' H2 H3 hi q y => ?_) (fun σ' H' q => ?_)⟩⟩
  · obtain ⟨rfl, k, v, q', hk, rfl, hq⟩ := y
    obtain ⟨k', d, e1, rfl, _⟩ := kv.at_ hk
    rw [tk_kV] at hq
    exact turn od i k' d _ σ' H3 _ _ e1 q (rp_tupS_of hq)
  · refine ⟨hf od _ σ' H' q, ?_⟩
    rw [kv.len] at q
    exact done od σ' H' q
end
/-! ### distances -/
/-- what a pair does -/
def relax (d : Di) (p : (Str × Str) × Int) : Di := match al d p.1.2 with
  | none => d
  | some x => (match al d p.1.1 with
    | none => aput d p.1.1 (p.2 + x)
    | some z => if p.2 + x < z then aput d p.1.1 (p.2 + x) else d)
def pass (l : Le) (d : Di) : Di := l.foldl relax d
def passes (l : Le) : Nat → Di → Di
  | 0, d => d
  | n + 1, d => pass l (passes l n d)
theorem aput_le {κ β : Type} [DecidableEq κ] (l : List (κ × β)) (k : κ) (y : β) : l.length ≤ (aput l k y).length := by
  unfold aput
  split <;> simp
theorem relax_len (d : Di) (p : (Str × Str) × Int) : (relax d p).length ≤ d.length + 1 := by
  unfold relax
  split
  · omega
  · split
    · exact aput_len _ _ _
    · split
      · exact aput_len _ _ _
      · omega
theorem fold_len (l : Le) : ∀ d : Di, (l.foldl relax d).length ≤ d.length + l.length := by
  induction l with
  | nil => intro d; simp
  | cons p r ih =>
    intro d
    have h1 := ih (relax d p)
    have h2 := relax_len d p
    rw [List.foldl_cons, List.length_cons]
    omega
theorem passes_len (l : Le) (d : Di) : ∀ n, (passes l n d).length ≤ d.length + n * l.length
  | 0 => by simp [passes]
  | n + 1 => by
    have h1 := fold_len l (passes l n d)
    have h2 := passes_len l d n
    show (pass l (passes l n d)).length ≤ _
    unfold pass
    rw [Nat.add_mul, Nat.one_mul]
    omega
theorem leD_at {l : Le} {i : Nat} {k : List Str} {e : PyData} (h : (leD l)[i]? = some (k, e)) : ∃ p, l[i]? = some p ∧ k = pk p.1 ∧ e = .int p.2 := by
  unfold leD aemb at h
  rw [List.getElem?_map] at h
  cases hp : l[i]? with
  | none => rw [hp] at h; cases h
  | some p =>
    rw [hp] at h
    injection h with h
    injection h with h1 h2
    exact ⟨p, rfl, h1.symm, h2.symm⟩
section
variable {P : Program} {w : World} {K : PySem.W.Frag} {mg : Str → Option Value} {base : Heap}
abbrev sDistancesTo : Stmt := top 35
theorem scDistancesTo : FnScope ["routers", "lengths", "d", "found", "turn", "pair", "length"] ["routers", "lengths", "d"] (defScope sDistancesTo) := ⟨rfl, rfl, rfl, by decide +kernel, rfl, by decide +kernel, by decide +kernel⟩
def spDistancesTo : Sp := fun vs H Q _ => ∃ (v1 : V) (L : Addr) (d : Str) (R : List Str) (l : Le), vs = [v1, .ref L, .str d] ∧ Rp H v1 (tupS R) ∧ R.length ≤ 10 ∧ DT H L (leD l) ∧ l.length ≤ 100 ∧ (l.map (·.1)).Nodup ∧ ∀ v H', Same H H' → Dk (diD (passes l R.length [(d, 0)])) v H' → Q v H'
/-- the slots -/
def dSlots (v1 : V) (L F : Addr) (d : Str) (σ : L2.St) : Prop := ∃ a b c, σ = [some v1, some (.ref L), some (.str d), some (.ref F), a, b, c]
/-- the dict at F, else as in H -/
structure DiI (H : Hp) (F : Addr) (d : Di) (H' : Hp) : Prop where
  x : SmX F H H'
  k : DK H' F (diD d)
theorem dk_tup {H : Hp} {F : Addr} {l : List (Str × PyData)} (h : DK H F l) : ∀ xs, H F ≠ some (.tup xs) := fun xs z => by
  obtain ⟨kvs, e, _⟩ := h
  rw [e] at z
  cases z
theorem relax_some {d : Di} {p : (Str × Str) × Int} (h : (al d p.1.2).isSome = false) : relax d p = d := by
  unfold relax
  cases e : al d p.1.2 with
  | none => rfl
  | some x => rw [e] at h; cases h
theorem cal_distances_to (D : Std K mg "distances_to" sDistancesTo) (T : Gc mg) : Cal P w K mg base "distances_to" ["routers", "lengths", "d"] 1 spDistancesTo := by
  refine D.cal scDistancesTo (fun vs H Q E h => ?_) (fun _ _ _ _ _ _ us hl => match us, hl with | [_, _, _], _ => rfl) (fun f cdv A outer s H vs Q E hr h => ?_)
  · obtain ⟨v1, L, d, R, l, rfl, _⟩ := h
    rfl
  · obtain ⟨v1, L, d, R, l, rfl, h1, h8, h2, hl, nk, k⟩ := h
    have nd := scDistancesTo.nd
    have hu := hu_of hr
    refine ⟨_, (pss_cons (ps_set (i := 3) nd rfl (Or.inl rfl) (pe_disp (pps_cons (pv 2) pe_int pps_nil) (by rfl) (by rfl) (fun z => by cases z) (by decide)))
 (pss_cons (ps_for PassesOwn.never rfl (pi_range1 (by rfl) T.b.range (pa_cons (pe_callB (k_len (K := K)) (by rfl) T.b.len (by decide +kernel) (pa_cons (pv 0) pa_nil)) pa_nil)) (pg_name (i := 4) nd rfl (Or.inl rfl))
 (pss_one (ps_lock (ps_for PassesOwn.never rfl (pi_keys (pv 1)) (pg_name (i := 5) nd rfl (Or.inl rfl))
 (pss_one (ps_if (pt_cmp (pc_din hu (pe_ix (k_ixT (K := K)) (pv 5) pe_int (fun _ _ => rfl)) (pv 3))) (pss_cons (ps_set (i := 6) nd rfl (Or.inl rfl) (pe_op op_add (pe_dget hu (pv 1) (pv 5) (fun _ _ => rfl)) (pe_dget hu (pv 3) (pe_ix (k_ixT (K := K)) (pv 5) pe_int (fun _ _ => rfl)) (fun _ _ => rfl))))
 (pss_one (ps_if (PW.pt (pw_or (pt_cmp (pc_dnotin hu (pe_ix (k_ixT (K := K)) (pv 5) pe_int (fun _ _ => rfl)) (pv 3))) (pw_or1 (pt_cmpR op_lt (pv 6) (pe_dget hu (pv 3) (pe_ix (k_ixT (K := K)) (pv 5) pe_int (fun _ _ => rfl)) (fun _ _ => rfl)) (nomark _))))) (pss_one (ps_dput hu (pv 3) (pe_ix (k_ixT (K := K)) (pv 5) pe_int (fun _ _ => rfl)) (pv 6) rfl)) pss_nil))) pss_nil))))))
 (pss_one (ps_ret (pv 3))))), ?_⟩
    -- found = {d: 0}
    refine fun F hF => ⟨.str d, rfl, upd_same, [(sk d, .int 0)], rfl, by show 1 ≤ 15; decide, ?_⟩
    have eF : upd (upd H F (.dK [])) F (.dK (mergeK [] [(sk d, V.int 0)])) = upd H F (.dK [(sk d, .int 0)]) := upd_upd
    rw [eF]
    have kF : DK (upd H F (.dK [(sk d, .int 0)])) F (diD [(d, 0)]) := ⟨_, upd_same, .cons (.int 0) .nil⟩
    have sF : Same H (upd H F (.dK [(sk d, .int 0)])) := same_new hF
    refine s_forR (n := R.length) (ea_d (ev_is (ev_lenT (ev_varD rfl (h1.sm sF))) (by rw [List.length_map])) ea_nil) (by omega) (fun _ i σ' H' => dSlots v1 L F d σ' ∧ DiI H F (passes l i [(d, 0)]) H') (fun H1 s1 => ⟨⟨_, _, _, rfl⟩, (SmX.of sF).trans (SmX.of s1), kF.sm s1⟩) ?_ ?_
    · rintro H1 i σ' H' s1 hi ⟨⟨a, b, c, rfl⟩, hx, hk⟩
      obtain ⟨kvs, hL, kv⟩ := h2
      have nLF : L ≠ F := ne_of_none hL hF
      have hL' : H' L = some (.dT kvs) := hx L _ nLF hL
      have nF : ∀ xs, H F ≠ some (.tup xs) := fun xs z => by rw [hF] at z; cases z
      have kv' : KvR H' tk kvs (leD l) := kv.up (hx.tk nF)
      have bl : (passes l i [(d, 0)]).length ≤ 1001 := by
        have h3 := passes_len l [(d, 0)] i
        have h4 : i * l.length ≤ 10 * 100 := Nat.mul_le_mul (by omega) hl
        have h5 : [(d, (0 : Int))].length = 1 := rfl
        omega
      refine s_forK (l := leD l) rfl hL' kv' (fun od i' σ'' H'' => dSlots v1 L F d σ'' ∧ DiI (upd H' L (.frz od (.dT kvs))) F ((l.take i').foldl relax (passes l i [(d, 0)])) H'') ?_ ?_ ?_ ?_
      · intro od
        refine ⟨⟨_, _, _, rfl⟩, SmX.refl _, ?_⟩
        obtain ⟨ks, e1, e2⟩ := hk
        refine ⟨ks, by rw [upd_ne (fun z => nLF z.symm)]; exact e1, e2.up (tk_upd fun xs z => by rw [hL'] at z; cases z)⟩
      · rintro od i' σ'' H'' ⟨_, q, _⟩
        exact q L _ nLF upd_same
      · rintro od i' k e v σ'' H'' RR BB hi' ⟨⟨a', b', c', rfl⟩, q1, q2⟩ rv
        obtain ⟨p, hp, rfl, rfl⟩ := leD_at hi'
        have tkf : Tk (upd H' L (.frz od (.dT kvs))) H'' := q1.tk fun xs z => by
          rw [upd_ne (fun z => nLF z.symm)] at z
          exact dk_tup hk xs z
        have hLk : H'' L = some (.frz od (.dT kvs)) := q1 L _ nLF upd_same
        have kv2 : KvR H'' tk kvs (leD l) := (kv'.up (tk_upd fun xs z => by rw [hL'] at z; cases z)).up tkf
        have dtL : Dt (leD l) (.ref L) H'' := ⟨L, kvs, rfl, .inr ⟨od, hLk⟩, kv2⟩
        have dn : ((l.take i').foldl relax (passes l i [(d, 0)])).length ≤ 2000 := by
          have h3 := fold_len (l.take i') (passes l i [(d, 0)])
          rw [List.length_take] at h3
          omega
        have nxt : ∀ dd, ((l.take i').foldl relax (passes l i [(d, 0)])) = dd → (l.take (i' + 1)).foldl relax (passes l i [(d, 0)]) = relax dd p := fun dd e => by
          rw [take_succ hp, List.foldl_append, e] <;> rfl
        generalize hdd : (l.take i').foldl relax (passes l i [(d, 0)]) = dd at q2 dn
        have nx' := nxt dd hdd
        obtain ⟨⟨a0, b0⟩, w0⟩ := p
        show tIfS _ _ _ _ _ _
        refine s_if (b := (al dd b0).isSome) (et_B (ev_is (ev_dinK (x := b0) (ev_ixT (ev_varD rfl rv) ev_int rfl rfl) (ev_var rfl q2.dk (stb_dk _))) (by rw [al_diD, Option.isSome_map]))) (fun e H2 s2 => ?_) (fun e H2 s2 => ?_)
        · obtain ⟨x, hx0⟩ := Option.isSome_iff_exists.mp e
          refine s_set (P := Dd (.int (w0 + x))) (ev_add (ev_dgetT (ev_var rfl (stb_dt _ _ _ _ s2 dtL) (stb_dt _)) (ev_varD rfl (rv.sm s2)) (by rw [al_leD, al_of_mem nk (List.mem_of_getElem? hp)]; rfl)) (ev_dgetK (ev_var rfl (stb_dk _ _ _ _ s2 q2.dk) (stb_dk _)) (ev_ixT (ev_varD rfl (rv.sm s2)) ev_int rfl rfl) (by rw [al_diD, hx0]; rfl))) fun v3 H3 s3 p3 => ?_
          rw [rp_int p3]
          have q3 : DK H3 F (diD dd) := (q2.sm s2).sm s3
          have r3 : Rp H3 v (tupS [a0, b0]) := (rv.sm s2).sm s3
          have o3 : SmX F (upd H' L (.frz od (.dT kvs))) H3 := (q1.trans (.of s2)).trans (.of s3)
          have put : relax dd ((a0, b0), w0) = aput dd a0 (w0 + x) → ∀ (D' : Ends), (∀ H5 o, Same H3 H5 → DK (upd H5 F o) F (diD (aput dd a0 (w0 + x))) → D'.nx [some v1, some (.ref L), some (.str d), some (.ref F), a', some v, some (.int (w0 + x))] (upd H5 F o)) → ∀ H4, Same H3 H4 → sDPut (tVar 3) (tOp (rIxT K) (tVar 5) (tC (.int 0))) (tVar 6) D' [some v1, some (.ref L), some (.str d), some (.ref F), a', some v, some (.int (w0 + x))] H4 := fun er D' kk H4 s4 =>
            s_dputK (ev_varI rfl) (ev_varX rfl) (ev_ixT (j := 0) (ev_varD rfl (r3.sm s4)) ev_int rfl rfl) (q3.sm s4) (by
              unfold diD aemb
              rw [List.length_map]
              omega) fun H5 o s5 t => kk H5 o (s4.trans s5) (by rw [diD_put]; exact t)
          have fin : ∀ H5 o, Same H3 H5 → DK (upd H5 F o) F (diD (relax dd ((a0, b0), w0))) → dSlots v1 L F d [some v1, some (.ref L), some (.str d), some (.ref F), a', some v, some (.int (w0 + x))] ∧ DiI (upd H' L (.frz od (.dT kvs))) F ((l.take (i' + 1)).foldl relax (passes l i [(d, 0)])) (upd H5 F o) := fun H5 o s5 t =>
            ⟨⟨_, _, _, rfl⟩, (o3.trans (.of s5)).upd, by rw [nx']; exact t⟩
          refine nx_of ?_
          cases ha : al dd a0 with
          | none =>
            refine s_if (b := true) (et_or (b := true) (c := false) (et_B (ev_is (ev_dnotK (x := a0) (ev_ixT (ev_varD rfl r3) ev_int rfl rfl) (ev_var rfl q3.dk (stb_dk _))) (by rw [al_diD, ha]; rfl))) (fun z => by cases z)) (fun _ H4 s4 => ?_) (fun z => by cases z)
            refine put (by unfold relax; rw [hx0]; dsimp only; rw [ha]) _ (fun H5 o s5 t => ?_) H4 s4
            exact fin H5 o s5 (by unfold relax; rw [hx0]; dsimp only; rw [ha]; exact t)
          | some z =>
            by_cases hlt : w0 + x < z
            · refine s_if (b := true) (et_or (b := false) (c := true) (et_B (ev_is (ev_dnotK (x := a0) (ev_ixT (ev_varD rfl r3) ev_int rfl rfl) (ev_var rfl q3.dk (stb_dk _))) (by rw [al_diD, ha]; rfl))) (fun _ => et_test (ev_is (ev_lt (i := w0 + x) (j := z) (ev_varI rfl) (ev_dgetK (x := a0) (ev_var rfl q3.dk (stb_dk _)) (ev_ixT (ev_varD rfl r3) ev_int rfl rfl) (by rw [al_diD, ha]; rfl))) (by rw [decide_eq_true hlt])))) (fun _ H4 s4 => ?_) (fun z => by cases z)
              refine put (by unfold relax; rw [hx0]; dsimp only; rw [ha]; dsimp only; rw [if_pos hlt]) _ (fun H5 o s5 t => ?_) H4 s4
              exact fin H5 o s5 (by unfold relax; rw [hx0]; dsimp only; rw [ha]; dsimp only; rw [if_pos hlt]; exact t)
            · refine s_if (b := false) (et_or (b := false) (c := false) (et_B (ev_is (ev_dnotK (x := a0) (ev_ixT (ev_varD rfl r3) ev_int rfl rfl) (ev_var rfl q3.dk (stb_dk _))) (by rw [al_diD, ha]; rfl))) (fun _ => et_test (ev_is (ev_lt (i := w0 + x) (j := z) (ev_varI rfl) (ev_dgetK (x := a0) (ev_var rfl q3.dk (stb_dk _)) (ev_ixT (ev_varD rfl r3) ev_int rfl rfl) (by rw [al_diD, ha]; rfl))) (by rw [decide_eq_false hlt])))) (fun z => by cases z) (fun _ H4 s4 => ?_)
              refine (show dSlots v1 L F d _ ∧ DiI (upd H' L (.frz od (.dT kvs))) F ((l.take (i' + 1)).foldl relax (passes l i [(d, 0)])) H4 from ⟨⟨_, _, _, rfl⟩, o3.trans (.of s4), ?_⟩)
              rw [nx', show relax dd ((a0, b0), w0) = dd by unfold relax; rw [hx0]; dsimp only; rw [ha]; dsimp only; rw [if_neg hlt]]
              exact q3.sm s4
        · refine (show dSlots v1 L F d _ ∧ DiI (upd H' L (.frz od (.dT kvs))) F ((l.take (i' + 1)).foldl relax (passes l i [(d, 0)])) H2 from ⟨⟨_, _, _, rfl⟩, q1.trans (.of s2), ?_⟩)
          rw [nx', relax_some e]
          exact q2.sm s2
      · rintro od σ'' H'' ⟨⟨a', b', c', rfl⟩, q1, q2⟩
        refine ⟨⟨_, _, _, rfl⟩, ?_, ?_⟩
        · intro a u na ha
          by_cases z : a = L
          · subst z
            rw [hL] at ha
            cases ha
            exact upd_same
          · rw [upd_ne z]
            exact q1 a u na (by rw [upd_ne z]; exact hx a u na ha)
        · have lz : (leD l).length = l.length := by unfold leD aemb; rw [List.length_map]
          rw [lz, List.take_length] at q2
          obtain ⟨ks, e1, e2⟩ := q2
          refine ⟨ks, by rw [upd_ne (fun z => nLF z.symm)]; exact e1, e2.up (tk_upd fun xs z => ?_)⟩
          rw [q1 L _ nLF upd_same] at z
          cases z
    · rintro H1 σ' H' s1 ⟨⟨a, b, c, rfl⟩, hx, hk⟩
      refine nx_of ?_
      exact s_ret (ev_var rfl hk.dk (stb_dk _)) fun v H2 s2 p => k v H2 ((hx.same (Same.refl _) hF).trans s2) p
end
end Qt
/-! Qi: Net, lengths_of, nexts_by, tables_by, next_tables, check_like. -/
namespace Qt
open PySem PySem.Spec PyProof.Rows L2
/-! ### Net -/
/-- a property that gives a field -/
def PrG (P : Program) (w : World) (K : PySem.W.Frag) (mg : Str → Option Value) (base : Heap) (C : Addr) (f g : Str) : Prop :=
  ∃ (p a : Addr) (fd : FuncData), PropOf K C f p a ∧ FnOk P w K mg base CX0 1 a fd ["self"] (getSp C g) ∧ Binds K fd ["self"] []
structure NetC (P : Program) (w : World) (K : PySem.W.Frag) (mg : Str → Option Value) (base : Heap) (C : Addr) : Prop where
  cls : Cls K C
  nr : NoAttr K C "own_routers"
  nl : NoAttr K C "own_links"
  pr : PrG P w K mg base C "routers" "own_routers"
  pl : PrG P w K mg base C "links" "own_links"
/-- a net of these routers and links -/
def NetD (C : Addr) (R : List Str) (ls : List Lk) : VP := fun v H => ∃ a dx fs vr vl, v = .ref a ∧ H a = some (.ins C dx fs) ∧ fs.lookup ("own_routers" : Str) = some vr ∧ fs.lookup ("own_links" : Str) = some vl ∧ Rp H vr (tupS R) ∧ Rp H vl (lksD ls)
theorem stb_net (C : Addr) (R : List Str) (ls : List Lk) : Stb (NetD C R ls) := fun v H H' s ⟨a, dx, fs, vr, vl, e, h, l1, l2, r1, r2⟩ => ⟨a, dx, fs, vr, vl, e, s _ _ h, l1, l2, r1.sm s, r2.sm s⟩
section
variable {X : Cx} {e : Expr} {pos : Pos} {ta : TE} {C : Addr}
theorem pe_netrouters (N : NetC X.prog X.w X.K X.mg X.base C) (he : PE X e ta) (hr : Room 2 X.A) (hab : attributeBase e "routers" X.env (eval e X.env) = eval e X.env := by rfl) : PE X (.Attribute e "routers" pos) (tProp C (getSp C "own_routers") [] E0 ta) := by
  obtain ⟨p, a, fd, hp, F, hb⟩ := N.pr
  exact pe_prop he N.cls hp F hr hb .nil pass0 hab
theorem pe_netlinks (N : NetC X.prog X.w X.K X.mg X.base C) (he : PE X e ta) (hr : Room 2 X.A) (hab : attributeBase e "links" X.env (eval e X.env) = eval e X.env := by rfl) : PE X (.Attribute e "links" pos) (tProp C (getSp C "own_links") [] E0 ta) := by
  obtain ⟨p, a, fd, hp, F, hb⟩ := N.pl
  exact pe_prop he N.cls hp F hr hb .nil pass0 hab
end
section
variable {σ : L2.St} {H : Hp} {te : TE} {C : Addr} {R : List Str} {ls : List Lk}
theorem ev_routers (h : Ev te σ H (NetD C R ls)) : Ev (tProp C (getSp C "own_routers") [] E0 te) σ H (Dd (tupS R)) := fun H1 s Q q => h H1 s _ fun v H2 s2 ⟨a, dx, fs, vr, vl, e, ha, l1, l2, r1, r2⟩ =>
  ⟨a, dx, fs, e, ha, a, dx, fs, vr, rfl, ha, l1, q _ H2 s2 r1⟩
theorem ev_links (h : Ev te σ H (NetD C R ls)) : Ev (tProp C (getSp C "own_links") [] E0 te) σ H (Dd (lksD ls)) := fun H1 s Q q => h H1 s _ fun v H2 s2 ⟨a, dx, fs, vr, vl, e, ha, l1, l2, r1, r2⟩ =>
  ⟨a, dx, fs, e, ha, a, dx, fs, vl, rfl, ha, l2, q _ H2 s2 r2⟩
end
/-! ### lengths -/
def lenS (f : Le) (k : Lk) : Le := aput (aput f (k.1, k.2.1) k.2.2.1) (k.2.1, k.1) k.2.2.2
def lens (ls : List Lk) : Le := ls.foldl lenS []
theorem lenS_len (f : Le) (k : Lk) : (lenS f k).length ≤ f.length + 2 := by
  have h1 := aput_len f (k.1, k.2.1) k.2.2.1
  have h2 := aput_len (aput f (k.1, k.2.1) k.2.2.1) (k.2.1, k.1) k.2.2.2
  unfold lenS
  omega
theorem lens_len (ls : List Lk) : ∀ f, (ls.foldl lenS f).length ≤ f.length + 2 * ls.length := by
  induction ls with
  | nil => intro f; simp
  | cons k r ih =>
    intro f
    have h1 := ih (lenS f k)
    have h2 := lenS_len f k
    rw [List.foldl_cons, List.length_cons]
    omega
theorem lens_nodup (ls : List Lk) : ∀ f : Le, (f.map (·.1)).Nodup → ((ls.foldl lenS f).map (·.1)).Nodup := by
  induction ls with
  | nil => intro f h; exact h
  | cons k r ih =>
    intro f h
    rw [List.foldl_cons]
    exact ih _ (aput_nodup (aput_nodup h _ _) _ _)
theorem leD_len (l : Le) : (leD l).length = l.length := by unfold leD aemb; rw [List.length_map]
section
variable {P : Program} {w : World} {K : PySem.W.Frag} {mg : Str → Option Value} {base : Heap} {C : Addr}
/-- a new dict with tuple keys, filled -/
structure LeI (H : Hp) (F : Addr) (l : List (List Str × PyData)) (H' : Hp) : Prop where
  x : SmX F H H'
  k : DT H' F l
theorem LeI.tk {H H' : Hp} {F : Addr} {l : List (List Str × PyData)} (i : LeI H F l H') (h : H F = none) : Tk H H' := i.x.tk fun xs z => by rw [h] at z; cases z
theorem dt_tup {H : Hp} {F : Addr} {l : List (List Str × PyData)} (h : DT H F l) : ∀ xs, H F ≠ some (.tup xs) := fun xs z => by
  obtain ⟨kvs, e, _⟩ := h
  rw [e] at z
  cases z
theorem LeI.tkF {H H' : Hp} {F : Addr} {l l' : List (List Str × PyData)} (i : LeI H F l H') (h : DT H F l') : Tk H H' := i.x.tk (dt_tup h)
theorem LeI.next {H H1 H2 : Hp} {F : Addr} {l l' : List (List Str × PyData)} {o : HO} (i : LeI H F l H1) (s : Same H1 H2) (t : DT (upd H2 F o) F l') : LeI H F l' (upd H2 F o) := ⟨(i.x.trans (.of s)).upd, t⟩
/-- of the targets of a pair of names -/
abbrev sLengthsOf : Stmt := top 33
theorem scLengthsOf : FnScope ["net", "found", "a", "b", "there", "back"] ["net"] (defScope sLengthsOf) := ⟨rfl, rfl, rfl, by decide +kernel, rfl, by decide +kernel, by decide +kernel⟩
def spLengthsOf (C : Addr) : Sp := fun vs H Q _ => ∃ (v1 : V) (R : List Str) (ls : List Lk), vs = [v1] ∧ NetD C R ls v1 H ∧ ls.length ≤ 16 ∧ ∀ a H', Same H H' → DT H' a (leD (lens ls)) → Q (.ref a) H'
theorem cal_lengths_of (D : Std K mg "lengths_of" sLengthsOf) (N : NetC P w K mg base C) : Cal P w K mg base "lengths_of" ["net"] 3 (spLengthsOf C) := by
  refine D.cal scLengthsOf (fun vs H Q E h => ?_) (fun _ _ _ _ _ _ us hl => match us, hl with | [_], _ => rfl) (fun f cdv A outer s H vs Q E hr h => ?_)
  · obtain ⟨v1, R, ls, rfl, _⟩ := h
    rfl
  · obtain ⟨v1, R, ls, rfl, h1, h8, k⟩ := h
    have nd := scLengthsOf.nd
    have hu := hu_of hr
    have T := N
    refine ⟨_, (pss_cons (ps_set (i := 1) nd rfl (Or.inl rfl) pe_dnewT)
 (pss_cons (ps_for PassesOwn.never rfl (k_piT (K := K) (pe_netlinks T (pv 0) hr)) (k_tgT (K := K) (n := 4) rfl (pgs_cons (pg_name (i := 2) nd rfl (Or.inl rfl)) (pgs_cons (pg_name (i := 3) nd rfl (Or.inl rfl)) (pgs_cons (pg_name (i := 4) nd rfl (Or.inl rfl)) (pgs_cons (pg_name (i := 5) nd rfl (Or.inl rfl)) pgs_nil)))))
 (pss_cons (ps_dput hu (pv 1) (pe_tup (pa_cons (pv 2) (pa_cons (pv 3) pa_nil))) (pv 4) rfl)
 (pss_one (ps_dput hu (pv 1) (pe_tup (pa_cons (pv 3) (pa_cons (pv 2) pa_nil))) (pv 5) rfl))))
 (pss_one (ps_ret (pv 1))))), ?_⟩
    refine fun F hF => ?_
    have sF : Same H (upd H F (.dT [])) := same_new hF
    have kF : DT (upd H F (.dT [])) F (leD []) := ⟨_, upd_same, .nil⟩
    refine s_forT (ev_links (ev_var rfl (stb_net _ _ _ _ _ _ sF h1) (stb_net _ _ _))) (fun H1 i σ' H' => (∃ a b c d, σ' = [some v1, some (.ref F), a, b, c, d]) ∧ LeI H1 F (leD ((ls.take i).foldl lenS [])) H') (fun H1 s1 => ⟨⟨_, _, _, _, rfl⟩, .refl _, kF.sm s1⟩) (fun H1 i σ' H' s1 q => q.2.tkF (kF.sm s1)) ?_ ?_
    · rintro H1 i d v σ' H' s1 hd ⟨⟨a, b, c, e, rfl⟩, q⟩ rv
      have hd' : (ls.map lkD)[i]? = some d := hd
      rw [List.getElem?_map] at hd'
      cases hk : ls[i]? with
      | none => rw [hk] at hd'; cases hd'
      | some l =>
        rw [hk] at hd'
        cases hd'
        obtain ⟨t, xs, rfl, hT, rx⟩ := rp_tup (ds := [.str l.1, .str l.2.1, .int l.2.2.1, .int l.2.2.2]) rv
        cases rx with | cons r1 rx => cases rx with | cons r2 rx => cases rx with | cons r3 rx => cases rx with | cons r4 rx =>
        cases rx
        rw [rp_str r1, rp_str r2, rp_int r3, rp_int r4] at hT
        refine ⟨t, _, rfl, SqT.of hT, rfl, _, _, rfl, _, _, rfl, _, _, rfl, _, _, rfl, rfl, ?_⟩
        have bl : ((ls.take i).foldl lenS []).length ≤ 32 := by
          have h3 := lens_len (ls.take i) []
          rw [List.length_take] at h3
          have h4 : ([] : Le).length = 0 := rfl
          omega
        generalize hf : (ls.take i).foldl lenS [] = ff at q bl
        have ef : (ls.take (i + 1)).foldl lenS [] = lenS ff l := by rw [take_succ hk, List.foldl_append, hf] <;> rfl
        refine s_dputT (k := [l.1, l.2.1]) (ev_varI rfl) (ev_varX rfl) (ev_tup (ds := [.str l.1, .str l.2.1]) (ea_d (ev_varS rfl) (ea_d (ev_varS rfl) ea_nil)) (by simp)) q.k (by rw [leD_len]; omega) fun H2 o s2 t2 => ?_
        refine nx_of ?_
        have b2 := aput_len ff (l.1, l.2.1) l.2.2.1
        rw [show aput (leD ff) [l.1, l.2.1] (.int l.2.2.1) = leD (aput ff (l.1, l.2.1) l.2.2.1) from (leD_put ff (l.1, l.2.1) l.2.2.1).symm] at t2
        refine s_dputT (k := [l.2.1, l.1]) (ev_varI rfl) (ev_varX rfl) (ev_tup (ds := [.str l.2.1, .str l.1]) (ea_d (ev_varS rfl) (ea_d (ev_varS rfl) ea_nil)) (by simp)) t2 (by rw [leD_len]; omega) fun H3 o3 s3 t3 => ?_
        rw [show aput (leD (aput ff (l.1, l.2.1) l.2.2.1)) [l.2.1, l.1] (.int l.2.2.2) = leD (lenS ff l) from (leD_put (aput ff (l.1, l.2.1) l.2.2.1) (l.2.1, l.1) l.2.2.2).symm, ← ef] at t3
        exact ⟨⟨_, _, _, _, rfl⟩, (((q.x.trans (.of s2)).upd (o := o)).trans (.of s3)).upd, t3⟩
    · rintro H1 σ' H' s1 ⟨⟨a, b, c, e, rfl⟩, q⟩
      refine nx_of ?_
      rw [List.length_map, List.take_length] at q
      refine s_ret (ev_varX rfl) fun v H2 s2 p => ?_
      obtain rfl : v = .ref F := p
      exact k F H2 (((((SmX.of sF).trans (.of s1)).trans q.x).same (Same.refl _) hF).trans s2) (q.k.sm s2)
end
end Qt
/-! Qj: nexts_by, tables_by, next_tables, check_like, together. -/
namespace Qt
open PySem PySem.Spec PyProof.Rows L2
/-! ### tables -/
def fine1 (l : Le) (D : Di) (x n : Str) : Bool := (al l (x, n)).isSome && (al D n).isSome
def fine2 (l : Le) (D : Di) (x n : Str) : Bool := decide ((al l (x, n)).getD 0 + (al D n).getD 0 = (al D x).getD 0)
def nexts (R : List Str) (l : Le) (D : Di) (x : Str) : List Str := if (al D x).getD 0 = 0 then [] else (R.filter (fine1 l D x)).filter (fine2 l D x)
section
variable {P : Program} {w : World} {K : PySem.W.Frag} {mg : Str → Option Value} {base : Heap} {C : Addr}
abbrev sNextsBy : Stmt := top 36
theorem scNextsBy : FnScope ["routers", "lengths", "distances", "router", "fine", "n"] ["routers", "lengths", "distances", "router"] (defScope sNextsBy) := ⟨rfl, rfl, rfl, by decide +kernel, rfl, by decide +kernel, by decide +kernel⟩
def spNextsBy : Sp := fun vs H Q _ => ∃ (v1 v2 v3 : V) (x : Str) (R : List Str) (l : Le) (D : Di), vs = [v1, v2, v3, .str x] ∧ Rp H v1 (tupS R) ∧ R.length ≤ 10 ∧ Dt (leD l) v2 H ∧ Dk (diD D) v3 H ∧ ∀ v H', Same H H' → Dd (tupS (nexts R l D x)) v H' → Q v H'
theorem getD_int (o : Option Int) : (o.map PyData.int).getD (.int 0) = .int (o.getD 0) := by cases o <;> rfl
theorem cal_nexts_by (D : Std K mg "nexts_by" sNextsBy) (T : Gc mg) : Cal P w K mg base "nexts_by" ["routers", "lengths", "distances", "router"] 1 spNextsBy := by
  refine D.cal scNextsBy (fun vs H Q E h => ?_) (fun _ _ _ _ _ _ us hl => match us, hl with | [_, _, _, _], _ => rfl) (fun f cdv A outer s H vs Q E hr h => ?_)
  · obtain ⟨v1, v2, v3, x, R, l, D, rfl, _⟩ := h
    rfl
  · obtain ⟨v1, v2, v3, x, R, l, D, rfl, h1, h8, h2, h3, k⟩ := h
    have nd := scNextsBy.nd
    have hu := hu_of hr
    refine ⟨_, (pss_cons (ps_if (pt_cmpR op_eq (pe_dget2 hu (pv 2) (pv 3) pe_int ⟨rfl, rfl, rfl, rfl⟩) pe_int (nomark _)) (pss_one (ps_ret (pe_tup pa_nil))) pss_nil)
 (pss_cons (ps_setLc (i := 4) (own := [("n", 5)]) rfl nd rfl rfl (sw_true rfl rfl rfl (by decide +kernel)) (k_piT (K := K) (pv 0)) (blkOk_by (by kernel_rfl)) (fun _ _ _ _ _ => (pg_name (i := 5) nd rfl (Or.inl rfl))) (fun _ _ _ _ _ => (pts_one (PW.pt (pw_and (pt_cmp (pc_din hu (pe_tup (pa_cons (pv 3) (pa_cons (pv 5) pa_nil))) (pv 1))) (pw_and1 (pt_cmp (pc_din hu (pv 5) (pv 2)))))))) (fun _ _ _ _ _ => (pv 5)))
 (pss_one (ps_ret (pe_callTy (k_tup (K := K)) (by rfl) T.b.tuple (by decide +kernel) (pa_cons (pe_lc (own := [("n", 5)]) rfl nd (k_piL (K := K) (pv 4)) (blkOk_by (by kernel_rfl)) (fun _ _ _ _ _ => (pg_name (i := 5) nd rfl (Or.inl rfl))) (fun _ _ _ _ _ => (pts_one (pt_cmpR op_eq (pe_op op_add (pe_dget hu (pv 1) (pe_tup (pa_cons (pv 3) (pa_cons (pv 5) pa_nil))) (fun _ _ => rfl)) (pe_dget hu (pv 2) (pv 5) (fun _ _ => rfl))) (pe_dget hu (pv 2) (pv 3) (fun _ _ => rfl)) (nomark _)))) (fun _ _ _ _ _ => (pv 5))) pa_nil)))))), ?_⟩
    refine s_if (b := decide ((al D x).getD 0 = 0)) (et_test (ev_eqI (ev_is (ev_dgetK2 (ev_var rfl h3 (stb_dk _)) (ev_varS rfl) ev_int) (by rw [al_diD, getD_int])) ev_int)) (fun e H1 s1 => ?_) (fun e H1 s1 => ?_)
    · have e' := of_decide_eq_true e
      refine s_ret (ev_tup (ds := []) ea_nil (by simp)) fun v H2 s2 p => k v H2 (s1.trans s2) ?_
      unfold nexts
      rw [if_pos e']
      exact p
    · have e' := of_decide_eq_false e
      refine nx_of ?_
      have h1' := h1.sm s1
      have h2' := stb_dt _ _ _ _ s1 h2
      have h3' := stb_dk _ _ _ _ s1 h3
      refine s_set (ev_lcTS (fine1 l D x) PyData.str (ev_varD rfl h1') (by omega) (fun _ => rfl) fun n hn H2 s2 => ⟨?_, fun _ => ev_varS rfl⟩) fun v4 H2 s2 p2 => ?_
      · exact et_and (et_B (ev_is (ev_dinT (k := [x, n]) (ev_tup (ds := [.str x, .str n]) (ea_d (ev_varS rfl) (ea_d (ev_varS rfl) ea_nil)) (by simp)) (ev_var rfl (stb_dt _ _ _ _ s2 h2') (stb_dt _))) (by rw [show al (leD l) [x, n] = _ from al_leD l (x, n), Option.isSome_map]))) fun _ =>
          et_B (ev_is (ev_dinK (x := n) (ev_varS rfl) (ev_var rfl (stb_dk _ _ _ _ s2 h3') (stb_dk _))) (by rw [al_diD, Option.isSome_map]))
      · have h2'' := stb_dt _ _ _ _ s2 h2'
        have h3'' := stb_dk _ _ _ _ s2 h3'
        obtain ⟨dx, hdx⟩ : ∃ dx, al D x = some dx := by
          cases z : al D x with
          | none => rw [z] at e'; exact absurd rfl e'
          | some dx => exact ⟨dx, rfl⟩
        refine nx_of ?_
        refine s_ret (ev_tupL (ev_lcLS (xs := R.filter (fine1 l D x)) (fine2 l D x) PyData.str (ev_var rfl p2 (stb_l _)) (Nat.le_trans (List.length_filter_le _ _) (by omega)) (fun _ => rfl) fun n hn H3 s3 => ⟨?_, fun _ => ev_varS rfl⟩)) fun v H3 s3 p3 => k v H3 ((s1.trans s2).trans s3) ?_
        · have hf : fine1 l D x n = true := (List.mem_filter.mp hn).2
          obtain ⟨f1, f2⟩ := Bool.and_eq_true_iff.mp (show ((al l (x, n)).isSome && (al D n).isSome) = true from hf)
          obtain ⟨wv, hw⟩ := Option.isSome_iff_exists.mp f1
          obtain ⟨yv, hy⟩ := Option.isSome_iff_exists.mp f2
          refine et_test (ev_is (ev_eqI (ev_add (i := wv) (j := yv) (ev_dgetT (k := [x, n]) (ev_var rfl (stb_dt _ _ _ _ s3 h2'') (stb_dt _)) (ev_tup (ds := [.str x, .str n]) (ea_d (ev_varS rfl) (ea_d (ev_varS rfl) ea_nil)) (by simp)) (by rw [show al (leD l) [x, n] = _ from al_leD l (x, n), hw]; rfl))
            (ev_dgetK (x := n) (ev_var rfl (stb_dk _ _ _ _ s3 h3'') (stb_dk _)) (ev_varS rfl) (by rw [al_diD, hy]; rfl))) (ev_dgetK (x := x) (d := .int dx) (ev_var rfl (stb_dk _ _ _ _ s3 h3'') (stb_dk _)) (ev_varS rfl) (by rw [al_diD, hdx]; rfl))) ?_)
          unfold fine2
          rw [hw, hy, hdx] <;> rfl
        · unfold nexts
          rw [if_neg e']
          exact p3
/-! ### a table -/
/-- the table of f over R -/
structure TabOk (R : List Str) (f : Str → Str → List Str) (tab : List (List Str × PyData)) : Prop where
  get : ∀ a ∈ R, ∀ d ∈ R, al tab [a, d] = some (tupS (f a d))
  mem : ∀ p ∈ tab, ∃ a ∈ R, ∃ d ∈ R, p = ([a, d], tupS (f a d))
  nodup : (tab.map (·.1)).Nodup
  few : tab.length ≤ 1000
  sub : ∀ a ∈ R, ∀ d ∈ R, ∀ x ∈ f a d, x ∈ R
  len : ∀ a ∈ R, ∀ d ∈ R, (f a d).length ≤ 10
def Tb (R : List Str) (f : Str → Str → List Str) : VP := fun v H => ∃ a tab, v = .ref a ∧ TabOk R f tab ∧ DT H a tab
theorem stb_tb (R : List Str) (f : Str → Str → List Str) : Stb (Tb R f) := fun v H H' s ⟨a, tab, e, o, t⟩ => ⟨a, tab, e, o, t.sm s⟩
/-- one column, all columns -/
def tabC (R : List Str) (f : Str → Str → List Str) (d : Str) (t : List (List Str × PyData)) : List (List Str × PyData) := R.foldl (fun t x => aput t [x, d] (tupS (f x d))) t
def tabR (R : List Str) (f : Str → Str → List Str) : List (List Str × PyData) := R.foldl (fun t d => tabC R f d t) []
theorem tabC_al (f : Str → Str → List Str) (d : Str) (k : List Str) : ∀ (R : List Str) (t : List (List Str × PyData)), al (tabC R f d t) k = if ∃ x ∈ R, k = [x, d] then some (tupS (f (k.headD "") d)) else al t k
  | [], t => by simp [tabC]
  | x :: R, t => by
    show al (tabC R f d (aput t [x, d] (tupS (f x d)))) k = _
    rw [tabC_al f d k R, al_put]
    by_cases h : ∃ y ∈ R, k = [y, d]
    · obtain ⟨y, hy, e⟩ := h
      rw [if_pos ⟨y, hy, e⟩, if_pos ⟨y, List.mem_cons_of_mem _ hy, e⟩]
    · rw [if_neg h]
      by_cases e : k = [x, d]
      · rw [if_pos e, if_pos ⟨x, List.mem_cons_self, e⟩, e] <;> rfl
      · rw [if_neg e, if_neg]
        rintro ⟨y, hy, e2⟩
        rcases List.mem_cons.mp hy with rfl | hy
        · exact e e2
        · exact h ⟨y, hy, e2⟩
theorem tabC_mem (R0 : List Str) (f : Str → Str → List Str) (d : Str) (hd : d ∈ R0) : ∀ (R : List Str) (t : List (List Str × PyData)), (∀ x ∈ R, x ∈ R0) → (∀ p ∈ t, ∃ a ∈ R0, ∃ d ∈ R0, p = ([a, d], tupS (f a d))) → ∀ p ∈ tabC R f d t, ∃ a ∈ R0, ∃ d ∈ R0, p = ([a, d], tupS (f a d))
  | [], t, _, h => h
  | x :: R, t, hR, h => tabC_mem R0 f d hd R _ (fun y hy => hR y (List.mem_cons_of_mem _ hy)) fun p hp => by
    rcases mem_aput hp with hp | rfl
    · exact h p hp
    · exact ⟨x, hR x List.mem_cons_self, d, hd, rfl⟩
theorem tabC_nodup (f : Str → Str → List Str) (d : Str) : ∀ (R : List Str) (t : List (List Str × PyData)), (t.map (·.1)).Nodup → ((tabC R f d t).map (·.1)).Nodup
  | [], t, h => h
  | x :: R, t, h => tabC_nodup f d R _ (aput_nodup h _ _)
theorem tabC_len (f : Str → Str → List Str) (d : Str) : ∀ (R : List Str) (t : List (List Str × PyData)), (tabC R f d t).length ≤ t.length + R.length
  | [], t => by simp [tabC]
  | x :: R, t => by
    have h1 := tabC_len f d R (aput t [x, d] (tupS (f x d)))
    have h2 := aput_len t [x, d] (tupS (f x d))
    show (tabC R f d (aput t [x, d] (tupS (f x d)))).length ≤ _
    rw [List.length_cons]
    omega
/-- columns of D0 -/
def tabL (R : List Str) (f : Str → Str → List Str) (Ds : List Str) : List (List Str × PyData) := Ds.foldl (fun t d => tabC R f d t) []
theorem tabL_len (R : List Str) (f : Str → Str → List Str) (Ds : List Str) : (tabL R f Ds).length ≤ Ds.length * R.length := by
  suffices h : ∀ (Ds : List Str) (t : List (List Str × PyData)), (Ds.foldl (fun t d => tabC R f d t) t).length ≤ t.length + Ds.length * R.length by
    have := h Ds []
    rw [List.length_nil, Nat.zero_add] at this
    exact this
  intro Ds
  induction Ds with
  | nil => intro t; simp
  | cons d r ih =>
    intro t
    have h1 := ih (tabC R f d t)
    have h2 := tabC_len f d R t
    rw [List.foldl_cons, List.length_cons, Nat.add_mul, Nat.one_mul]
    omega
theorem tabR_ok {R : List Str} (f : Str → Str → List Str) (hz : R.length ≤ 10) (hs : ∀ a ∈ R, ∀ d ∈ R, ∀ x ∈ f a d, x ∈ R) (hl : ∀ a ∈ R, ∀ d ∈ R, (f a d).length ≤ 10) : TabOk R f (tabR R f) := by
  have g : ∀ (Ds : List Str) (t : List (List Str × PyData)) (a d : Str), a ∈ R → (d ∈ Ds ∨ al t [a, d] = some (tupS (f a d))) → al (Ds.foldl (fun t d => tabC R f d t) t) [a, d] = some (tupS (f a d)) := by
    intro Ds
    induction Ds with
    | nil =>
      intro t a d _ h
      rcases h with h | h
      · cases h
      · exact h
    | cons d0 r ih =>
      intro t a d ha h
      rw [List.foldl_cons]
      refine ih _ a d ha ?_
      by_cases z : d ∈ r
      · exact .inl z
      · right
        rw [tabC_al]
        by_cases e : d = d0
        · subst e
          rw [if_pos ⟨a, ha, rfl⟩] <;> rfl
        · rw [if_neg]
          · rcases h with h | h
            · rcases List.mem_cons.mp h with h | h
              · exact absurd h e
              · exact absurd h z
            · exact h
          · rintro ⟨x, _, q⟩
            injection q with _ q
            injection q with q _
            exact e q
  refine ⟨fun a ha d hd => g R [] a d ha (.inl hd), ?_, ?_, ?_, hs, hl⟩
  · have m : ∀ (Ds : List Str) (t : List (List Str × PyData)), (∀ d ∈ Ds, d ∈ R) → (∀ p ∈ t, ∃ a ∈ R, ∃ d ∈ R, p = ([a, d], tupS (f a d))) → ∀ p ∈ Ds.foldl (fun t d => tabC R f d t) t, ∃ a ∈ R, ∃ d ∈ R, p = ([a, d], tupS (f a d)) := by
      intro Ds
      induction Ds with
      | nil => intro t _ h; exact h
      | cons d r ih => exact fun t hd h => ih _ (fun x hx => hd x (List.mem_cons_of_mem _ hx)) (tabC_mem R f d (hd d List.mem_cons_self) R t (fun _ h => h) h)
    exact m R [] (fun _ h => h) fun p hp => by cases hp
  · have n : ∀ (Ds : List Str) (t : List (List Str × PyData)), (t.map (·.1)).Nodup → ((Ds.foldl (fun t d => tabC R f d t) t).map (·.1)).Nodup := by
      intro Ds
      induction Ds with
      | nil => intro t h; exact h
      | cons d r ih => exact fun t h => ih _ (tabC_nodup f d R t h)
    exact n R [] List.nodup_nil
  · have h1 := tabL_len R f R
    have h2 : R.length * R.length ≤ 10 * 10 := Nat.mul_le_mul hz hz
    show (tabL R f R).length ≤ 1000
    omega
/-! ### tables_by -/
def tblF (R : List Str) (l : Le) (x d : Str) : List Str := nexts R l (passes l R.length [(d, 0)]) x
theorem nexts_sub {R : List Str} {l : Le} {D : Di} {x y : Str} (h : y ∈ nexts R l D x) : y ∈ R := by
  unfold nexts at h
  split at h
  · cases h
  · exact (List.mem_filter.mp (List.mem_filter.mp h).1).1
theorem nexts_len (R : List Str) (l : Le) (D : Di) (x : Str) : (nexts R l D x).length ≤ R.length := by
  unfold nexts
  split
  · exact Nat.zero_le _
  · exact Nat.le_trans (List.length_filter_le _ _) (List.length_filter_le _ _)
abbrev sTablesBy : Stmt := top 37
theorem scTablesBy : FnScope ["routers", "lengths", "found", "d", "distances", "router"] ["routers", "lengths"] (defScope sTablesBy) := ⟨rfl, rfl, rfl, by decide +kernel, rfl, by decide +kernel, by decide +kernel⟩
def spTablesBy : Sp := fun vs H Q _ => ∃ (v1 : V) (L : Addr) (R : List Str) (l : Le), vs = [v1, .ref L] ∧ Rp H v1 (tupS R) ∧ R.length ≤ 10 ∧ DT H L (leD l) ∧ l.length ≤ 100 ∧ (l.map (·.1)).Nodup ∧ ∀ v H', Same H H' → Tb R (tblF R l) v H' → Q v H'
theorem cal_tables_by (D : Std K mg "tables_by" sTablesBy) (T : Gc mg) (Cdistances_to : Cal P w K mg base "distances_to" ["routers", "lengths", "d"] 1 spDistancesTo) (Cnexts_by : Cal P w K mg base "nexts_by" ["routers", "lengths", "distances", "router"] 1 spNextsBy) :
    Cal P w K mg base "tables_by" ["routers", "lengths"] 2 spTablesBy := by
  refine D.cal scTablesBy (fun vs H Q E h => ?_) (fun _ _ _ _ _ _ us hl => match us, hl with | [_, _], _ => rfl) (fun f cdv A outer s H vs Q E hr h => ?_)
  · obtain ⟨v1, L, R, l, rfl, _⟩ := h
    rfl
  · obtain ⟨v1, L, R, l, rfl, h1, h8, h2, hl, nk, k⟩ := h
    have nd := scTablesBy.nd
    have hu := hu_of hr
    refine ⟨_, (pss_cons (ps_set (i := 2) nd rfl (Or.inl rfl) pe_dnewT)
 (pss_cons (ps_for PassesOwn.never rfl (k_piT (K := K) (pv 0)) (pg_name (i := 3) nd rfl (Or.inl rfl))
 (pss_cons (ps_set (i := 4) nd rfl (Or.inl rfl) (pe_cal Cdistances_to (hr.mono (by decide)) (pa_cons (pv 0) (pa_cons (pv 1) (pa_cons (pv 3) pa_nil)))))
 (pss_one (ps_for PassesOwn.never rfl (k_piT (K := K) (pv 0)) (pg_name (i := 5) nd rfl (Or.inl rfl))
 (pss_one (ps_dput hu (pv 2) (pe_tup (pa_cons (pv 5) (pa_cons (pv 3) pa_nil))) (pe_cal Cnexts_by (hr.mono (by decide)) (pa_cons (pv 0) (pa_cons (pv 1) (pa_cons (pv 4) (pa_cons (pv 5) pa_nil))))) rfl))))))
 (pss_one (ps_ret (pv 2))))), ?_⟩
    refine fun F hF => ?_
    have sF : Same H (upd H F (.dT [])) := same_new hF
    have kF : DT (upd H F (.dT [])) F [] := ⟨_, upd_same, .nil⟩
    have nF : ∀ xs, H F ≠ some (.tup xs) := fun xs z => by rw [hF] at z; cases z
    have up : ∀ {H'}, SmX F H H' → Rp H' v1 (tupS R) ∧ DT H' L (leD l) := fun {H'} x => ⟨h1.up (x.tk nF), by
      obtain ⟨kvs, e1, e2⟩ := h2
      exact ⟨kvs, x L _ (ne_of_none e1 hF) e1, e2.up (x.tk nF)⟩⟩
    refine s_forT (ev_varD rfl (h1.sm sF)) (fun H1 i σ' H' => (∃ a b c, σ' = [some v1, some (.ref L), some (.ref F), a, b, c]) ∧ SmX F H H' ∧ LeI H1 F (tabL R (tblF R l) (R.take i)) H') (fun H1 s1 => ⟨⟨_, _, _, rfl⟩, (SmX.of sF).trans (.of s1), .refl _, kF.sm s1⟩) (fun H1 i σ' H' s1 q => q.2.2.tkF (kF.sm s1)) ?_ ?_
    · rintro H1 i d v σ' H' s1 hd ⟨⟨a, b, c, rfl⟩, x0, q⟩ rv
      rw [List.getElem?_map] at hd
      cases hk : R[i]? with
      | none => rw [hk] at hd; cases hd
      | some r0 =>
        rw [hk] at hd
        cases hd
        rw [rp_str rv]
        have bl : (tabL R (tblF R l) (R.take i)).length ≤ 100 := by
          have h3 := tabL_len R (tblF R l) (R.take i)
          have h4 : (R.take i).length * R.length ≤ 10 * 10 := Nat.mul_le_mul (by rw [List.length_take]; omega) h8
          omega
        obtain ⟨u1, u2⟩ := up x0
        refine s_set (P := Dk (diD (passes l R.length [(r0, 0)]))) (ev_call (ea_d (ev_varD rfl u1) (ea_cons (ev_varX rfl) (stb_x _) (ea_d (ev_varS rfl) ea_nil))) ?_) fun v3 H2 s2 p2 => ?_
        · rintro vs H2 s2 ⟨v, r, rfl, p1, u, r2, rfl, rfl, w', r3, rfl, p3, rfl⟩ Q' q'
          rw [rp_str p3]
          exact ⟨v, L, r0, R, l, rfl, p1, h8, u2.sm s2, hl, nk, q'⟩
        · refine nx_of ?_
          obtain ⟨u1', u2'⟩ := up (x0.trans (.of s2))
          generalize ht : tabL R (tblF R l) (R.take i) = t0 at q bl
          have k2 : DT H2 F t0 := q.k.sm s2
          refine s_forT (ev_varD rfl u1') (fun H3 j σ'' H'' => (∃ c, σ'' = [some v1, some (.ref L), some (.ref F), some (.str r0), some v3, c]) ∧ SmX F H H'' ∧ SmX F H1 H'' ∧ Dk (diD (passes l R.length [(r0, 0)])) v3 H'' ∧ LeI H3 F (tabC (R.take j) (tblF R l) r0 t0) H'')
            (fun H3 s3 => ⟨⟨_, rfl⟩, (x0.trans (.of s2)).trans (.of s3), (q.x.trans (.of s2)).trans (.of s3), stb_dk _ _ _ _ s3 p2, .refl _, k2.sm s3⟩) (fun H3 j σ'' H'' s3 q3 => q3.2.2.2.2.tkF (k2.sm s3)) ?_ ?_
          · rintro H3 j d v σ'' H'' s3 hd ⟨⟨c', rfl⟩, x3, x4, d3, q3⟩ rv'
            rw [List.getElem?_map] at hd
            cases hj : R[j]? with
            | none => rw [hj] at hd; cases hd
            | some y =>
              rw [hj] at hd
              cases hd
              rw [rp_str rv']
              obtain ⟨w1, w2⟩ := up x3
              have b3 := tabC_len (tblF R l) r0 (R.take j) t0
              have b4 : (R.take j).length ≤ 10 := by rw [List.length_take]; omega
              have et : tabC (R.take (j + 1)) (tblF R l) r0 t0 = aput (tabC (R.take j) (tblF R l) r0 t0) [y, r0] (tupS (tblF R l y r0)) := by
                unfold tabC
                rw [take_succ hj, List.foldl_append] <;> rfl
              have d3' := d3
              refine s_dputT (k := [y, r0]) (d := tupS (tblF R l y r0)) (ev_call (ea_d (ev_varD rfl w1) (ea_cons (ev_var rfl w2.dt (stb_dt _)) (stb_dt _) (ea_cons (ev_var rfl d3 (stb_dk _)) (stb_dk _) (ea_d (ev_varS rfl) ea_nil)))) ?_) (ev_varX rfl) (ev_tup (ds := [.str y, .str r0]) (ea_d (ev_varS rfl) (ea_d (ev_varS rfl) ea_nil)) (by simp)) q3.k (by omega) fun H5 o s5 t5 => ?_
              · rintro vs H5 s5 ⟨v, r, rfl, p1, u, r2, rfl, p2', w', r3, rfl, p3, z, r4, rfl, p4, rfl⟩ Q' q'
                rw [rp_str p4]
                exact ⟨v, u, w', y, R, l, _, rfl, p1, h8, p2', p3, q'⟩
              · refine ⟨⟨_, rfl⟩, (x3.trans (.of s5)).upd, (x4.trans (.of s5)).upd, ?_, (q3.x.trans (.of s5)).upd, by rw [et]; exact t5⟩
                obtain ⟨a3, kvs3, e3, rd3, kv3⟩ := d3
                have nA : a3 ≠ F := fun z => by
                  subst z
                  obtain ⟨ks, f1, _⟩ := q3.k
                  rcases rd3 with rd3 | ⟨_, rd3⟩
                  · rw [f1] at rd3; cases rd3
                  · rw [f1] at rd3; cases rd3
                refine ⟨a3, kvs3, e3, ?_, (kv3.sm s5).up (tk_upd fun xs z => ?_)⟩
                · rcases rd3 with rd3 | ⟨o3, rd3⟩
                  · exact .inl (by rw [upd_ne nA]; exact s5 _ _ rd3)
                  · exact .inr ⟨o3, by rw [upd_ne nA]; exact s5 _ _ rd3⟩
                · obtain ⟨ks, f1, _⟩ := q3.k
                  rw [s5 _ _ f1] at z
                  cases z
          · rintro H3 σ'' H'' s3 ⟨⟨c', rfl⟩, x3, x4, d3, q3⟩
            rw [List.length_map, List.take_length] at q3
            refine (show (∃ a b c, _ = [some v1, some (V.ref L), some (V.ref F), a, b, c]) ∧ SmX F H H'' ∧ LeI H1 F (tabL R (tblF R l) (R.take (i + 1))) H'' from ⟨⟨_, _, _, rfl⟩, x3, x4, ?_⟩)
            have et : tabL R (tblF R l) (R.take (i + 1)) = tabC R (tblF R l) r0 t0 := by
              unfold tabL at ht ⊢
              rw [take_succ hk, List.foldl_append, ht] <;> rfl
            rw [et]
            exact q3.k
    · rintro H1 σ' H' s1 ⟨⟨a, b, c, rfl⟩, x0, q⟩
      refine nx_of ?_
      rw [List.length_map, List.take_length] at q
      refine s_ret (ev_varX rfl) fun v H2 s2 p => ?_
      obtain rfl : v = .ref F := p
      exact k _ H2 ((x0.same (Same.refl _) hF).trans s2) ⟨F, _, rfl, tabR_ok _ h8 (fun _ _ _ _ _ hx => nexts_sub hx) (fun _ _ _ _ => Nat.le_trans (nexts_len _ _ _ _) h8), q.k.sm s2⟩
abbrev sNextTables : Stmt := top 38
theorem scNextTables : FnScope ["net"] ["net"] (defScope sNextTables) := ⟨rfl, rfl, rfl, by decide +kernel, rfl, by decide +kernel, by decide +kernel⟩
def spNextTables (C : Addr) : Sp := fun vs H Q _ => ∃ (v1 : V) (R : List Str) (ls : List Lk), vs = [v1] ∧ NetD C R ls v1 H ∧ R.length ≤ 10 ∧ ls.length ≤ 16 ∧ ∀ v H', Same H H' → Tb R (tblF R (lens ls)) v H' → Q v H'
/-- the very address of a dict -/
def DtR (l : List (List Str × PyData)) : VP := fun v H => ∃ a, v = .ref a ∧ DT H a l
theorem stb_dtr (l : List (List Str × PyData)) : Stb (DtR l) := fun v H H' s ⟨a, e, t⟩ => ⟨a, e, t.sm s⟩
theorem cal_next_tables (D : Std K mg "next_tables" sNextTables) (N : NetC P w K mg base C) (Ctables_by : Cal P w K mg base "tables_by" ["routers", "lengths"] 2 spTablesBy) (Clengths_of : Cal P w K mg base "lengths_of" ["net"] 3 (spLengthsOf C)) :
    Cal P w K mg base "next_tables" ["net"] 4 (spNextTables C) := by
  refine D.cal scNextTables (fun vs H Q E h => ?_) (fun _ _ _ _ _ _ us hl => match us, hl with | [_], _ => rfl) (fun f cdv A outer s H vs Q E hr h => ?_)
  · obtain ⟨v1, R, ls, rfl, _⟩ := h
    rfl
  · obtain ⟨v1, R, ls, rfl, h1, h8, h16, k⟩ := h
    have nd := scNextTables.nd
    have T := N
    refine ⟨_, pss_one (ps_ret (pe_cal Ctables_by (hr.mono (by decide)) (pa_cons (pe_netrouters T (pv 0) (hr.mono (by decide))) (pa_cons (pe_cal Clengths_of (hr.mono (by decide)) (pa_cons (pv 0) pa_nil)) pa_nil)))), ?_⟩
    have hl : (lens ls).length ≤ 32 := by
      have h3 := lens_len ls []
      have h4 : ([] : Le).length = 0 := rfl
      show (ls.foldl lenS []).length ≤ 32
      omega
    refine s_ret (P := Tb R (tblF R (lens ls))) (ev_call (ea_d (ev_routers (ev_var rfl h1 (stb_net _ _ _))) (ea_cons (P := DtR (leD (lens ls))) (ev_call (ea_cons (ev_var rfl h1 (stb_net _ _ _)) (stb_net _ _ _) ea_nil) ?_) (stb_dtr _) ea_nil)) ?_) fun v H2 s2 p => k v H2 s2 p
    · rintro vs H2 s2 ⟨v, r, rfl, p1, rfl⟩ Q' q'
      exact ⟨v, R, ls, rfl, p1, h16, fun a H3 s3 t => q' _ H3 s3 ⟨a, rfl, t⟩⟩
    · rintro vs H2 s2 ⟨v, r, rfl, p1, u, r2, rfl, ⟨a, rfl, t⟩, rfl⟩ Q' q'
      exact ⟨v, a, R, lens ls, rfl, p1, h8, t, by omega, lens_nodup ls [] List.nodup_nil, q'⟩
abbrev sCheckLike : Stmt := top 40
theorem scCheckLike : FnScope ["old", "new"] ["old", "new"] (defScope sCheckLike) := ⟨rfl, rfl, rfl, by decide +kernel, rfl, by decide +kernel, by decide +kernel⟩
def spCheckLike (C : Addr) : Sp := fun vs H Q _ => ∃ (v1 v2 : V) (R : List Str) (ls ls' : List Lk), vs = [v1, v2] ∧ NetD C R ls v1 H ∧ NetD C R ls' v2 H ∧ (∀ x ∈ R, PyData.strOk x = true) ∧ ∀ H', Same H H' → Q .non H'
theorem lay_strs : ∀ R : List Str, (∀ x ∈ R, PyData.strOk x = true) → PyData.canLayAll0 (R.map PyData.str) = true
  | [], _ => rfl
  | x :: r, h => by
    have := lay_strs r fun y hy => h y (List.mem_cons_of_mem _ hy)
    have h1 := h x List.mem_cons_self
    simp [PyData.canLayAll0, PyData.canLay0]
    exact ⟨h1, this⟩
theorem depth_strs : ∀ R : List Str, PyData.depthAll (R.map PyData.str) = 0
  | [] => rfl
  | x :: r => by
    have := depth_strs r
    simp [PyData.depthAll, PyData.depth]
    exact this
theorem shaped_tupS {R : List Str} (h : ∀ x ∈ R, PyData.strOk x = true) : SeqAt.shaped (tupS R) = true := by
  unfold SeqAt.shaped
  rw [Bool.and_eq_true]
  have h2 : (tupS R).depth ≤ 64 := by
    have := depth_strs R
    simp only [tupS, PyData.depth]
    omega
  exact ⟨by simp only [tupS, PyData.canLay0]; exact lay_strs R h, decide_eq_true h2⟩
theorem eqv_strs : ∀ R S : List Str, PyData.eqvAll (R.map PyData.str) (S.map PyData.str) = decide (R = S)
  | [], [] => rfl
  | [], _ :: _ => rfl
  | _ :: _, [] => rfl
  | x :: r, y :: t => by
    have ih := eqv_strs r t
    rw [List.map_cons, List.map_cons]
    have e : PyData.eqvAll (PyData.str x :: r.map PyData.str) (PyData.str y :: t.map PyData.str) = ((x == y) && PyData.eqvAll (r.map PyData.str) (t.map PyData.str)) := by simp only [PyData.eqvAll, PyData.eqv]
    rw [e, ih]
    by_cases h : x = y
    · by_cases h2 : r = t
      · simp [h, h2]
      · simp [h, h2]
    · simp [h]
theorem eqv_tupS (R S : List Str) : PyData.eqv (tupS R) (tupS S) = decide (R = S) := by
  have e : PyData.eqv (tupS R) (tupS S) = PyData.eqvAll (R.map PyData.str) (S.map PyData.str) := by simp only [tupS, PyData.eqv]
  rw [e]
  exact eqv_strs R S
theorem cal_check_like (D : Std K mg "check_like" sCheckLike) (N : NetC P w K mg base C) : Cal P w K mg base "check_like" ["old", "new"] 3 (spCheckLike C) := by
  refine D.cal scCheckLike (fun vs H Q E h => ?_) (fun _ _ _ _ _ _ us hl => match us, hl with | [_, _], _ => rfl) (fun f cdv A outer s H vs Q E hr h => ?_)
  · obtain ⟨v1, v2, R, ls, ls', rfl, _⟩ := h
    rfl
  · obtain ⟨v1, v2, R, ls, ls', rfl, h1, h2, so, k⟩ := h
    have nd := scCheckLike.nd
    have T := N
    refine ⟨_, (pss_one (ps_if (pt_cmpR (k_neD (K := K) hr.units) (pe_netrouters T (pv 0) hr) (pe_netrouters T (pv 1) hr) (nomark _)) (pss_one ps_never) pss_nil)), ?_⟩
    refine s_if (b := false) (et_test (ev_is (ev_neD (ev_routers (ev_var rfl h1 (stb_net _ _ _))) (stb_d _) (ev_routers (ev_var rfl h2 (stb_net _ _ _))) (fun _ _ p => Rp.dp _ _ p) (fun _ _ p => Rp.dp _ _ p) (shaped_tupS so) (shaped_tupS so)) (by rw [eqv_tupS, decide_eq_true rfl] <;> rfl))) (fun e => by cases e) fun _ H1 s1 => k H1 s1
end
end Qt
/-! Qt6: sorted(set(..)) of texts, of tuples, as evaluations. -/
namespace Qt
open PySem PySem.Spec PyProof.Rows L2
open PySem.W
theorem le_trans_d {κ : Type} (enc : κ → PyData) (a b c : κ) (h1 : dataLe false enc a b = true) (h2 : dataLe false enc b c = true) : dataLe false enc a c = true := by
  rw [dataLe_eq] at h1 h2 ⊢
  have h1 : (!dataLt (enc b) (enc a)) = true := h1
  have h2 : (!dataLt (enc c) (enc b)) = true := h2
  show (!dataLt (enc c) (enc a)) = true
  cases h : dataLt (enc c) (enc a) with
  | false => rfl
  | true =>
    rcases (listOrd itemOrd).negTrans _ (keyToks (enc b)) _ (show (listOrd itemOrd).blt (keyToks (enc c)) (keyToks (enc a)) = true from h) with z | z
    · rw [show dataLt (enc c) (enc b) = true from z] at h2; cases h2
    · rw [show dataLt (enc b) (enc a) = true from z] at h1; cases h1
theorem le_total_d {κ : Type} (enc : κ → PyData) (a b : κ) : (dataLe false enc a b || dataLe false enc b a) = true := by
  rw [dataLe_eq]
  show ((!dataLt (enc b) (enc a)) || (!dataLt (enc a) (enc b))) = true
  cases h : dataLt (enc b) (enc a) with
  | false => rfl
  | true =>
    cases h2 : dataLt (enc a) (enc b) with
    | false => rfl
    | true =>
      have h3 := (listOrd itemOrd).trans _ _ _ (show (listOrd itemOrd).blt (keyToks (enc a)) (keyToks (enc b)) = true from h2) (show (listOrd itemOrd).blt (keyToks (enc b)) (keyToks (enc a)) = true from h)
      rw [(listOrd itemOrd).irrefl] at h3
      cases h3
theorem sorted_d {κ : Type} (enc : κ → PyData) (l : List κ) : (l.mergeSort (dataLe false enc)).Pairwise fun a b => dataLt (enc b) (enc a) = false := by
  have h := List.pairwise_mergeSort (le := dataLe false enc) (le_trans_d enc) (fun a b => by simpa using le_total_d enc a b) l
  refine h.imp fun {a b} h => ?_
  rw [dataLe_eq] at h
  have h : (!dataLt (enc b) (enc a)) = true := h
  simpa using h
theorem lt_or {x y : Str} (n : x ≠ y) : Lt x y ∨ Lt y x := by
  unfold Lt
  by_cases h : x.cps.toList < y.cps.toList
  · exact .inl h
  · right
    have h2 : y.cps.toList ≤ x.cps.toList := List.not_lt.mp h
    rcases (List.le_iff_lt_or_eq.mp h2) with z | z
    · exact z
    · exfalso
      apply n
      cases x; cases y
      simp only at z
      congr 1
      exact (Array.toList_inj.mp z).symm
/-! texts -/
def relS (_ : Hp) (v : V) (k : Str) : Prop := v = .str k
theorem strs_scan {P : Program} {w : World} (k : Str) (v : Value) (h : (PySem.strKind P w).is k v = true) : ∃ t, v = .str k t := by
  exact Value.isStrOf_shape h
theorem pe_ssS {X : Cx} {K : PySem.W.Frag} {a : Expr} {ta : TE} {p p2 q pos : Pos} (hc : X.calm = true) (hu : X.A.units + 64 < cLine) (hg : Gl X "sorted") (hm : X.mg "sorted" = none) (hg2 : Gl X "set") (hm2 : X.mg "set" = none) (ha : PE X a ta)
    (na : starEach [a] X.env = (false, eval a X.env) :: starEach [] X.env := by rfl) (hK : X.K = K := by rfl) : PE X (.Call (.Name "sorted" p) [.Call (.Name "set" p2) [a] [] q] [] pos) (tSS K relS (fun _ => True) (dataLe false PyData.str) ta) := by
  subst hK
  refine pe_ss (setW_scan (PySem.strKind X.prog X.w) fun k v h => ?_) (fun {pins σ H s v u k} I r e => ?_) (fun h v k e => ?_) (fun ks _ => ⟨fun _ _ _ _ => rfl, fun k _ => by simp [PyData.depth]⟩) (fun ks _ A' s' vs ks' _ e al d => SortsAt.data e al (Sortable.others fun b => ⟨fun z => (by cases z), fun xs z => (by cases z)⟩) d) hc hu hg hm hg2 hm2 ha na
  · obtain ⟨t, rfl⟩ := strs_scan k v h
    rfl
  · rw [show v = .str k from e] at r
    obtain ⟨t, rfl⟩ := r
    exact PySem.strKind_is _ _ _ _
  · obtain ⟨t, rfl⟩ := strs_scan k v e
    exact ⟨[], .str k t⟩
theorem each_rp {H : Hp} : ∀ {xs : List Str} {vs : List V}, EachIs (relS H) vs xs → vs = xs.map V.str
  | _, _, .nil => rfl
  | _, _, .cons h t => by rw [show _ = V.str _ from h, each_rp t] <;> rfl
theorem rp_each {H : Hp} : ∀ (xs : List Str), EachIs (relS H) (xs.map V.str) xs
  | [] => .nil
  | x :: xs => .cons rfl (rp_each xs)
section
variable {K : PySem.W.Frag} {σ : L2.St} {H : Hp} {te : TE}
theorem ev_ssS {xs : List Str} (h : Ev te σ H (Ls (xs.map PyData.str))) (hz : xs.length < 63) : Ev (tSS K relS (fun _ => True) (dataLe false PyData.str) te) σ H (fun v H' => ∃ ys : List Str, Ls (ys.map PyData.str) v H' ∧ ys.Pairwise Lt ∧ ∀ z, z ∈ ys ↔ z ∈ xs) := fun H1 s Q q => h H1 s _ fun v H2 s2 p => by
  obtain ⟨a, vs, rfl, h1, h2⟩ := p
  rw [rp_tupS_all.mp h2] at h1
  refine ⟨a, _, xs, rfl, SqL.of h1, rp_each xs, few_of hz, True.intro, fun p out ks' hp ho nd hk => q _ _ (s2.trans (same_new hp)) ⟨ks'.mergeSort (dataLe false PyData.str), ⟨p, out, rfl, upd_same, rp_tupS_all.mpr (each_rp ho)⟩, ?_, fun z => by rw [(List.mergeSort_perm _ _).mem_iff, hk]⟩⟩
  have hs := sorted_d PyData.str ks'
  have hnd : (ks'.mergeSort (dataLe false PyData.str)).Nodup := (List.mergeSort_perm _ _).nodup_iff.mpr nd
  refine (hs.and hnd).imp fun {x y} ⟨h1, h2⟩ => ?_
  rw [dataLt_str, decide_eq_false_iff_not] at h1
  rcases lt_or h2 with z | z
  · exact z
  · exact absurd z h1
/-- any length, few kinds -/
theorem ev_ssSU {xs U : List Str} (h : Ev te σ H (Ls (xs.map PyData.str))) (hU : U.length < 63) (hs : ∀ x ∈ xs, x ∈ U) : Ev (tSS K relS (fun _ => True) (dataLe false PyData.str) te) σ H (fun v H' => ∃ ys : List Str, Ls (ys.map PyData.str) v H' ∧ ys.Pairwise Lt ∧ ∀ z, z ∈ ys ↔ z ∈ xs) := fun H1 s Q q => h H1 s _ fun v H2 s2 p => by
  obtain ⟨a, vs, rfl, h1, h2⟩ := p
  rw [rp_tupS_all.mp h2] at h1
  refine ⟨a, _, xs, rfl, SqL.of h1, rp_each xs, fun L n hl => few_of hU L n fun k hk => hs k (hl k hk), True.intro, fun p out ks' hp ho nd hk => q _ _ (s2.trans (same_new hp)) ⟨ks'.mergeSort (dataLe false PyData.str), ⟨p, out, rfl, upd_same, rp_tupS_all.mpr (each_rp ho)⟩, ?_, fun z => by rw [(List.mergeSort_perm _ _).mem_iff, hk]⟩⟩
  have hs := sorted_d PyData.str ks'
  have hnd : (ks'.mergeSort (dataLe false PyData.str)).Nodup := (List.mergeSort_perm _ _).nodup_iff.mpr nd
  refine (hs.and hnd).imp fun {x y} ⟨h1, h2⟩ => ?_
  rw [dataLt_str, decide_eq_false_iff_not] at h1
  rcases lt_or h2 with z | z
  · exact z
  · exact absurd z h1
end
/-! tuples -/
def keyD : Key → PyData
  | .inl i => .int i
  | .inr x => .str x
def keyT (k : List Key) : PyData := .tuple (k.map keyD)
def relT (H : Hp) (v : V) (k : List Key) : Prop := ∃ b, v = .ref b ∧ H b = some (.tup (k.map kV))
theorem itemK_mix (P : Program) (w : World) : ItemK (mixKind P w) where
  cls := fun n k v h => by
    rcases keyIs_shape (show keyIs k v = true from h) with ⟨i, t, _, rfl⟩ | ⟨x, t, _, rfl⟩ <;> cases n <;> rfl
  hbv := fun k v h => by
    rcases keyIs_shape (show keyIs k v = true from h) with ⟨i, t, _, rfl⟩ | ⟨x, t, _, rfl⟩
    · exact ⟨true, fun n => by cases n <;> rfl⟩
    · exact ⟨false, fun n => by cases n <;> rfl⟩
theorem items_reads {P : Program} {w : World} {h : Heap} : ∀ {k : List Key} {vs : List Value}, ItemsAre (mixKind P w) k vs → ReadsAll h vs (k.map keyD) []
  | _, _, .nil => .nil
  | _, _, .cons h1 t => by
    rcases keyIs_shape (show keyIs _ _ = true from h1) with ⟨i, tt, rfl, rfl⟩ | ⟨x, tt, rfl, rfl⟩
    · exact .cons (as := []) (.int i tt) (items_reads t)
    · exact .cons (as := []) (.str x tt) (items_reads t)
theorem pe_ssT {X : Cx} {K : PySem.W.Frag} {a : Expr} {ta : TE} {p p2 q pos : Pos} (hc : X.calm = true) (hu : X.A.units + 64 < cLine) (hg : Gl X "sorted") (hm : X.mg "sorted" = none) (hg2 : Gl X "set") (hm2 : X.mg "set" = none) (ha : PE X a ta)
    (na : starEach [a] X.env = (false, eval a X.env) :: starEach [] X.env := by rfl) (hK : X.K = K := by rfl) : PE X (.Call (.Name "sorted" p) [.Call (.Name "set" p2) [a] [] q] [] pos) (tSS K relT (fun ks => (∀ k ∈ ks, ∀ k' ∈ ks, alike (keyT k) (keyT k') = true)) (dataLe false keyT) ta) := by
  subst hK
  refine pe_ss (setW_tab (mixKind X.prog X.w) (itemK_mix _ _)) (fun {pins σ H s v u k} I r e => ?_) (fun h v k e => ?_) (fun ks hk => ⟨hk, fun k _ => ?_⟩) (fun ks _ A' s' vs ks' _ e al d => sortsAt_tups e al (fun d hd => ?_) d) hc hu hg hm hg2 hm2 ha na
  · obtain ⟨b, rfl, hb⟩ := e
    cases r
    exact ⟨b, rfl, key_of I.hok hb⟩
  · obtain ⟨b, rfl, o, items, n, ho, hcl, hd, hi⟩ := e
    exact ⟨_, .tuple ho hcl hd (items_reads hi)⟩
  · have : ∀ k : List Key, PyData.depthAll (k.map keyD) = 0 := fun k => by
      induction k with
      | nil => rfl
      | cons x k ih =>
        cases x <;> simp [PyData.depthAll, keyD, PyData.depth] <;> exact ih
    simp [keyT, PyData.depth, this]
  · obtain ⟨k, _, rfl⟩ := List.mem_map.mp hd
    exact ⟨_, rfl⟩
theorem keys_kV' {H : Hp} : ∀ {k : List Key} {xs : List V}, RpAll H xs (k.map keyD) → xs = k.map kV
  | [], _, h => by cases h; rfl
  | .inl i :: k, _, h => by
    cases h with
    | cons h1 h2 => rw [rp_int h1, keys_kV' h2]; rfl
  | .inr x :: k, _, h => by
    cases h with
    | cons h1 h2 => rw [rp_str h1, keys_kV' h2]; rfl
theorem kV_keys {H : Hp} : ∀ (k : List Key), RpAll H (k.map kV) (k.map keyD)
  | [] => .nil
  | .inl i :: k => .cons (.int i) (kV_keys k)
  | .inr x :: k => .cons (.str x) (kV_keys k)
theorem relT_of {H : Hp} {v : V} {k : List Key} (h : Rp H v (keyT k)) : relT H v k := by
  obtain ⟨a, xs, rfl, h1, h2⟩ := rp_tup h
  rw [keys_kV' h2] at h1
  exact ⟨a, rfl, h1⟩
theorem of_relT {H : Hp} {v : V} {k : List Key} (h : relT H v k) : Rp H v (keyT k) := by
  obtain ⟨b, rfl, hb⟩ := h
  exact .tup hb (kV_keys k)
theorem each_relT {H : Hp} : ∀ {ks : List (List Key)} {vs : List V}, RpAll H vs (ks.map keyT) → EachIs (relT H) vs ks
  | [], _, h => by cases h; exact .nil
  | k :: ks, _, h => by
    cases h with
    | cons h1 h2 => exact .cons (relT_of h1) (each_relT h2)
theorem relT_each {H : Hp} : ∀ {vs : List V} {ks : List (List Key)}, EachIs (relT H) vs ks → RpAll H vs (ks.map keyT)
  | _, _, .nil => .nil
  | _, _, .cons h t => .cons (of_relT h) (relT_each t)
abbrev AllT (ks : List (List Key)) : Prop := ∀ k ∈ ks, ∀ k' ∈ ks, alike (keyT k) (keyT k') = true
section
variable {K : PySem.W.Frag} {σ : L2.St} {H : Hp} {te : TE}
theorem ev_ssT {ks : List (List Key)} (h : Ev te σ H (Ls (ks.map keyT))) (hz : ks.length < 63) (hal : AllT ks) : Ev (tSS K relT AllT (dataLe false keyT) te) σ H (fun v H' => ∃ ks' : List (List Key), Ls ((ks'.mergeSort (dataLe false keyT)).map keyT) v H' ∧ ks'.Nodup ∧ ∀ z, z ∈ ks' ↔ z ∈ ks) := fun H1 s Q q => h H1 s _ fun v H2 s2 p => by
  obtain ⟨a, vs, rfl, h1, h2⟩ := p
  have e := each_relT h2
  exact ⟨a, vs, ks, rfl, SqL.of h1, e, few_of hz, hal, fun p out ks' hp ho nd hk => q _ _ (s2.trans (same_new hp)) ⟨ks', ⟨p, out, rfl, upd_same, (relT_each ho).sm (same_new hp)⟩, nd, hk⟩⟩
/-- links -/
def lkK (l : Lk) : List Key := [.inr l.1, .inr l.2.1, .inl l.2.2.1, .inl l.2.2.2]
theorem keyT_lkK (l : Lk) : keyT (lkK l) = lkD l := rfl
theorem lkK_inj {l m : Lk} (h : lkK l = lkK m) : l = m := by
  obtain ⟨a, b, c, d⟩ := l
  obtain ⟨a', b', c', d'⟩ := m
  unfold lkK at h
  simp only [List.cons.injEq, Sum.inr.injEq, Sum.inl.injEq, and_true] at h
  obtain ⟨rfl, rfl, rfl, rfl⟩ := h
  rfl
abbrev prL (l : Lk) : Str × Str := (l.1, l.2.1)
theorem dataLt_lk {p q : Lk} (h : Lt2 (prL p) (prL q)) : dataLt (lkD p) (lkD q) = true := by
  have ev : ∀ x y : Str, PyData.eqv (.str x) (.str y) = decide (x = y) := fun x y => by
    show (x == y) = _
    by_cases e : x = y
    · subst e; simp
    · simp [e]
  unfold lkD
  rw [dataLt_tuple, dataLt_cons rfl, ev, dataLt_str]
  rcases h with h | ⟨e, h⟩
  · have n : ¬ p.1 = q.1 := fun z => lt_irrefl q.1 (by
      have h' : Lt p.1 q.1 := h
      rw [z] at h'
      exact h')
    rw [if_neg (by simpa using n)]
    exact decide_eq_true h
  · have e' : p.1 = q.1 := e
    have h' : Lt p.2.1 q.2.1 := h
    have n : ¬ p.2.1 = q.2.1 := fun z => lt_irrefl q.2.1 (by rw [z] at h'; exact h')
    rw [if_pos (by simpa using e'), dataLt_cons rfl, ev, dataLt_str, if_neg (by simpa using n)]
    exact decide_eq_true h'
theorem lt2_or {p q : Str × Str} (n : p ≠ q) : Lt2 p q ∨ Lt2 q p := by
  by_cases e : p.1 = q.1
  · have n2 : p.2 ≠ q.2 := fun z => n (Prod.ext e z)
    rcases lt_or n2 with h | h
    · exact .inl (.inr ⟨e, h⟩)
    · exact .inr (.inr ⟨e.symm, h⟩)
  · rcases lt_or e with h | h
    · exact .inl (.inl h)
    · exact .inr (.inl h)
theorem lks_of {ls : List Lk} : ∀ {ks : List (List Key)}, (∀ k ∈ ks, k ∈ ls.map lkK) → ∃ ls' : List Lk, ks = ls'.map lkK ∧ ∀ l ∈ ls', l ∈ ls
  | [], _ => ⟨[], rfl, fun _ h => by cases h⟩
  | k :: ks, h => by
    obtain ⟨ls', e, hx⟩ := lks_of (ls := ls) (ks := ks) fun k hk => h k (List.mem_cons_of_mem _ hk)
    obtain ⟨l, hl, rfl⟩ := List.mem_map.mp (h k List.mem_cons_self)
    refine ⟨l :: ls', by rw [List.map_cons, e], fun m hm => ?_⟩
    rcases List.mem_cons.mp hm with rfl | hm
    · exact hl
    · exact hx m hm
theorem ev_ssLk {ls : List Lk} (h : Ev te σ H (Ls (ls.map lkD))) (hz : ls.length < 63) (hd : ∀ l ∈ ls, ∀ m ∈ ls, prL l = prL m → l = m) :
    Ev (tSS K relT AllT (dataLe false keyT) te) σ H (fun v H' => ∃ ls' : List Lk, Ls (ls'.map lkD) v H' ∧ ls'.Pairwise (fun l m => Lt2 (prL l) (prL m)) ∧ ∀ l, l ∈ ls' ↔ l ∈ ls) := by
  have e0 : ls.map lkD = (ls.map lkK).map keyT := by rw [List.map_map] <;> rfl
  rw [e0] at h
  refine (ev_ssT (K := K) h (by rw [List.length_map]; exact hz) (fun k hk k' hk' => ?_)).imp fun v H' s ⟨ks', p, nd, hk⟩ => ?_
  · obtain ⟨l, _, rfl⟩ := List.mem_map.mp hk
    obtain ⟨m, _, rfl⟩ := List.mem_map.mp hk'
    rfl
  · have pm := List.mergeSort_perm ks' (dataLe false keyT)
    have srt := sorted_d keyT ks'
    have nd2 := pm.nodup_iff.mpr nd
    have hm : ∀ k, k ∈ ks'.mergeSort (dataLe false keyT) ↔ k ∈ ls.map lkK := fun k => by rw [pm.mem_iff, hk]
    generalize ks'.mergeSort (dataLe false keyT) = kk at p srt nd2 hm
    obtain ⟨ls', rfl, hls⟩ := lks_of (ls := ls) (ks := kk) fun k hk => (hm k).mp hk
    refine ⟨ls', by rw [List.map_map] at p; exact p, ?_, fun l => ⟨hls l, fun hl => ?_⟩⟩
    · have h1 := List.pairwise_map.mp srt
      have h2 := List.pairwise_map.mp nd2
      refine List.Pairwise.imp_of_mem (fun {l m} hl hm' ⟨a1, a2⟩ => ?_) (h1.and h2)
      have n : prL l ≠ prL m := fun e => a2 (by rw [hd l (hls l hl) m (hls m hm') e])
      rcases lt2_or n with z | z
      · exact z
      · rw [keyT_lkK, keyT_lkK, dataLt_lk z] at a1
        cases a1
    · obtain ⟨m, hm1, e⟩ := List.mem_map.mp ((hm (lkK l)).mpr (List.mem_map_of_mem hl))
      rw [← lkK_inj e]
      exact hm1
end
end Qt
/-! Qk: together, moments_of, links_towards. -/
namespace Qt
open PySem PySem.Spec PyProof.Rows L2
def tog (R m s : List Str) : List Str := R.filter fun x => decide (x ∈ m) || decide (x ∈ s)
def momS (f : List (List Str)) (r : Str) : List (List Str) := f ++ f.map fun m => m ++ [r]
def moms (R : List Str) : List (List Str) := R.foldl momS [[]]
theorem moms_len : ∀ (R : List Str) (f : List (List Str)), (R.foldl momS f).length = f.length * 2 ^ R.length
  | [], f => by simp
  | x :: R, f => by
    rw [List.foldl_cons, moms_len R, List.length_cons, Nat.pow_succ]
    unfold momS
    rw [List.length_append, List.length_map]
    have : f.length + f.length = f.length * 2 := by omega
    rw [this, Nat.mul_assoc, Nat.mul_comm 2]
theorem moms_sub' : ∀ (R P : List Str) (f : List (List Str)), (∀ m ∈ f, m.Sublist P) → ∀ m ∈ R.foldl momS f, m.Sublist (P ++ R)
  | [], P, f, h => by
    rw [List.append_nil]
    exact h
  | x :: R, P, f, h => by
    rw [List.foldl_cons]
    have := moms_sub' R (P ++ [x]) (momS f x) (fun m hm => by
      rcases List.mem_append.mp hm with hm | hm
      · exact (h m hm).trans (List.sublist_append_left _ _)
      · obtain ⟨m', hm', rfl⟩ := List.mem_map.mp hm
        exact (h m' hm').append (List.Sublist.refl _))
    rw [List.append_assoc] at this
    exact this
theorem moms_sub (R : List Str) : ∀ m ∈ moms R, m.Sublist R := moms_sub' R [] [[]] fun m hm => by
  rw [List.mem_singleton.mp hm]
  exact List.Sublist.refl _
theorem allP_of {H : Hp} : ∀ {ds : List PyData} {vs : List V}, RpAll H vs ds → AllP (ds.map Dd) vs H
  | [], _, h => by cases h; rfl
  | d :: ds, _, h => by
    cases h with
    | cons h1 h2 => exact ⟨_, _, rfl, h1, allP_of h2⟩
section
variable {K : PySem.W.Frag} {σ : L2.St} {H : Hp} {te : TE} {tr : TA} {ds es : List PyData}
theorem ea_starT (h : Ev te σ H (Dd (.tuple ds))) (hr : EvA tr σ H (es.map Dd)) : EvA (StX.tStar K te tr) σ H ((ds ++ es).map Dd) := fun H1 s Q q => h H1 s _ fun v H2 s2 p => by
  obtain ⟨a, xs, rfl, h1, h2⟩ := rp_tup p
  refine ⟨a, xs, rfl, .inl (SqT.of h1), hr H2 (s.trans s2) _ fun vs H3 s3 p3 => q _ H3 (s2.trans s3) ?_⟩
  exact allP_of ((h2.sm s3).append (allP_d (vs := vs) p3))
end
section
variable {P : Program} {w : World} {K : PySem.W.Frag} {mg : Str → Option Value} {base : Heap} {C : Addr}
abbrev sTogether : Stmt := top 21
theorem scTogether : FnScope ["routers", "moment", "some", "router"] ["routers", "moment", "some"] (defScope sTogether) := ⟨rfl, rfl, rfl, by decide +kernel, rfl, by decide +kernel, by decide +kernel⟩
def spTogether : Sp := fun vs H Q _ => ∃ (v1 v2 v3 : V) (R m s : List Str), vs = [v1, v2, v3] ∧ Rp H v1 (tupS R) ∧ Rp H v2 (tupS m) ∧ Rp H v3 (tupS s) ∧ R.length ≤ 100 ∧ ∀ v H', Same H H' → Dd (tupS (tog R m s)) v H' → Q v H'
theorem cal_together (D : Std K mg "together" sTogether) (T : Gc mg) : Cal P w K mg base "together" ["routers", "moment", "some"] 1 spTogether := by
  refine D.cal scTogether (fun vs H Q E h => ?_) (fun _ _ _ _ _ _ us hl => match us, hl with | [_, _, _], _ => rfl) (fun f cdv A outer s H vs Q E hr h => ?_)
  · obtain ⟨v1, v2, v3, R, m, s, rfl, _⟩ := h
    rfl
  · obtain ⟨v1, v2, v3, R, m, s', rfl, h1, h2, h3, hz, k⟩ := h
    have nd := scTogether.nd
    refine ⟨_, (pss_one (ps_ret (pe_callTy (k_tup (K := K)) (by rfl) T.b.tuple (by decide +kernel) (pa_cons (pe_lc (own := [("router", 3)]) rfl nd (k_piT (K := K) (pv 0)) (blkOk_by (by kernel_rfl)) (fun _ _ _ _ _ => (pg_name (i := 3) nd rfl (Or.inl rfl))) (fun _ _ _ _ _ => (pts_one (PW.pt (pw_or (pt_cmpR (k_in (K := K)) (pv 3) (pv 1) rfl) (pw_or1 (pt_cmpR (k_in (K := K)) (pv 3) (pv 2) rfl)))))) (fun _ _ _ _ _ => (pv 3))) pa_nil)))), ?_⟩
    refine s_ret (ev_tupL (ev_lcTS (fun x => decide (x ∈ m) || decide (x ∈ s')) PyData.str (ev_varD rfl h1) (by omega) (fun v => rfl) fun x hx H1 sm => ?_)) fun v H1 s1 p => k v H1 s1 p
    exact ⟨et_or (et_test (ev_inT (ev_varS rfl) (ev_varD rfl (h2.sm sm)))) fun _ => et_test (ev_inT (ev_varS rfl) (ev_varD rfl (h3.sm sm))), fun _ => ev_varS rfl⟩
abbrev sMomentsOf : Stmt := top 20
theorem scMomentsOf : FnScope ["routers", "found", "router", "moment"] ["routers"] (defScope sMomentsOf) := ⟨rfl, rfl, rfl, by decide +kernel, rfl, by decide +kernel, by decide +kernel⟩
def spMomentsOf : Sp := fun vs H Q _ => ∃ (v1 : V) (R : List Str), vs = [v1] ∧ Rp H v1 (tupS R) ∧ R.length ≤ 10 ∧ ∀ v H', Same H H' → Ls ((moms R).map tupS) v H' → Q v H'
def snocD (r : Str) : PyData → PyData
  | .tuple ds => .tuple (ds ++ [.str r])
  | d => d
theorem cal_moments_of (D : Std K mg "moments_of" sMomentsOf) (T : Gc mg) : Cal P w K mg base "moments_of" ["routers"] 1 spMomentsOf := by
  refine D.cal scMomentsOf (fun vs H Q E h => ?_) (fun _ _ _ _ _ _ us hl => match us, hl with | [_], _ => rfl) (fun f cdv A outer s H vs Q E hr h => ?_)
  · obtain ⟨v1, R, rfl, _⟩ := h
    rfl
  · obtain ⟨v1, R, rfl, h1, hz, k⟩ := h
    have nd := scMomentsOf.nd
    refine ⟨_, (pss_cons (ps_set (i := 1) nd rfl (Or.inl rfl) (pe_lst (pa_cons (pe_tup pa_nil) pa_nil)))
 (pss_cons (ps_for PassesOwn.never rfl (k_piT (K := K) (pv 0)) (pg_name (i := 2) nd rfl (Or.inr rfl))
 (pss_one (ps_set (i := 1) nd rfl (Or.inl rfl) (pe_op op_cat (pv 1) (pe_lc (own := [("moment", 3)]) rfl nd (k_piL (K := K) (pv 1)) (blkOk_by (by kernel_rfl)) (fun _ _ _ _ _ => (pg_name (i := 3) nd rfl (Or.inl rfl))) (fun _ _ _ _ _ => pts_nil) (fun _ _ _ _ _ => (pe_tup (k_star (K := K) (pv 3) (pa_cons (pv 2) pa_nil)))))))))
 (pss_one (ps_ret (pv 1))))), ?_⟩
    refine s_set (P := Ls [tupS []]) (ev_lst (ds := [tupS []]) (ea_d (ev_tup (ds := []) ea_nil (by simp)) ea_nil) (by simp)) fun v0 H0 s0 p0 => ?_
    refine nx_of ?_
    refine s_forT (ev_varD rfl (h1.sm s0)) (fun H1 i σ' H' => (∃ v a b, σ' = [some v1, some v, a, b] ∧ Ls (((R.take i).foldl momS [[]]).map tupS) v H') ∧ Same H1 H') (fun H1 s1 => ⟨⟨v0, _, _, rfl, stb_l _ _ _ _ s1 p0⟩, Same.refl _⟩) (fun H1 i σ' H' s1 q => tk_same q.2) ?_ ?_
    · rintro H1 i d v σ' H' s1 hd ⟨⟨vf, a, b, rfl, hl⟩, sm⟩ rv
      rw [List.getElem?_map] at hd
      cases hk : R[i]? with
      | none => rw [hk] at hd; cases hd
      | some r =>
        rw [hk] at hd
        cases hd
        rw [rp_str rv]
        have bl : ((R.take i).foldl momS [[]]).length ≤ 1024 := by
          rw [moms_len]
          have h3 : 2 ^ (R.take i).length ≤ 2 ^ 10 := Nat.pow_le_pow_right (by decide) (by rw [List.length_take]; omega)
          have h4 : [([] : List Str)].length = 1 := rfl
          rw [h4, Nat.one_mul]
          exact Nat.le_trans h3 (by decide)
        have et : (R.take (i + 1)).foldl momS [[]] = momS ((R.take i).foldl momS [[]]) r := by rw [take_succ hk, List.foldl_append] <;> rfl
        rw [et]
        have ml : ∀ m ∈ (R.take i).foldl momS [[]], m.length ≤ 10 := fun m hm => by
          have := (moms_sub (R.take i) m hm).length_le
          rw [List.length_take] at this
          omega
        generalize (R.take i).foldl momS [[]] = f0 at hl bl ml
        have em : (((f0.map tupS).filter fun _ => true).map (snocD r)) = (f0.map fun m => m ++ [r]).map tupS := by
          rw [List.filter_eq_self.mpr (fun _ _ => rfl), List.map_map, List.map_map]
          refine List.map_congr_left fun m _ => ?_
          show PyData.tuple (m.map PyData.str ++ [.str r]) = .tuple ((m ++ [r]).map PyData.str)
          rw [List.map_append] <;> rfl
        refine s_set (P := Ls ((momS f0 r).map tupS)) ?_ fun v3 H3 s3 p3 => ⟨⟨v3, _, _, rfl, p3⟩, sm.trans s3⟩
        unfold momS
        rw [List.map_append, ← em]
        refine ev_catL (ev_var rfl hl (stb_l _)) (ev_lcL (fun _ => true) (snocD r) (ev_var rfl hl (stb_l _)) (by rw [List.length_map]; omega) (fun _ => rfl) fun d hd v2 H3 s3 rd => ⟨et_yes, fun _ => ?_⟩) (by rw [em, List.length_map, List.length_map, List.length_map]; omega)
        obtain ⟨m, hm, rfl⟩ := List.mem_map.mp hd
        have hml := ml m hm
        refine ev_is (d := .tuple (m.map PyData.str ++ [.str r])) (ev_tup (ea_starT (es := [.str r]) (ev_varD rfl rd) (ea_d (ev_varS rfl) ea_nil)) (by rw [List.length_append, List.length_map, List.length_singleton]; omega)) rfl
    · rintro H1 σ' H' s1 ⟨⟨vf, a, b, rfl, hl⟩, sm⟩
      rw [List.length_map, List.take_length] at hl
      refine nx_of ?_
      exact s_ret (ev_var rfl hl (stb_l _)) fun v H2 s2 p => k v H2 (((s0.trans s1).trans sm).trans s2) p
end
end Qt
/-! Ql: links_towards, ranked. -/
namespace Qt
open PySem PySem.Spec PyProof.Rows L2
/-! ### the links towards d -/
def lkF (R : List Str) (t o : Str → Str → List Str) (d x : Str) : List Str := if x = d then [] else R.filter fun y => decide (y ∈ t x d ++ o x d)
/-- f's lists as a dict over R -/
structure LinksOk (R : List Str) (f : Str → List Str) (lk : List (Str × PyData)) : Prop where
  get : ∀ x ∈ R, al lk x = some (tupS (f x))
  mem : ∀ p ∈ lk, p.1 ∈ R
  nodup : (lk.map (·.1)).Nodup
  few : lk.length ≤ 100
  sub : ∀ x ∈ R, ∀ y ∈ f x, y ∈ R
  len : ∀ x ∈ R, (f x).length ≤ 10
def lkS (R : List Str) (t o : Str → Str → List Str) (d : Str) (l : List (Str × PyData)) (x : Str) : List (Str × PyData) := if x = d then l else aput l x (tupS (lkF R t o d x))
theorem lkS_al {R : List Str} {t o : Str → Str → List Str} {d : Str} : ∀ (Rs : List Str) (l : List (Str × PyData)) (x : Str), (x ∈ Rs ∨ al l x = some (tupS (lkF R t o d x))) → al l d = some (tupS (lkF R t o d d)) → al (Rs.foldl (lkS R t o d) l) x = some (tupS (lkF R t o d x))
  | [], l, x, h, _ => by
    rcases h with h | h
    · cases h
    · exact h
  | y :: Rs, l, x, h, hd => by
    rw [List.foldl_cons]
    have hd' : al (lkS R t o d l y) d = some (tupS (lkF R t o d d)) := by
      unfold lkS
      split
      · exact hd
      · rename_i n
        rw [al_put, if_neg (fun z => n z.symm)]
        exact hd
    refine lkS_al Rs _ x ?_ hd'
    by_cases z : x ∈ Rs
    · exact .inl z
    · right
      by_cases e : x = y
      · subst e
        unfold lkS
        split
        · rename_i q
          subst q
          exact hd
        · rw [al_put, if_pos rfl]
      · have h' : al l x = some (tupS (lkF R t o d x)) := by
          rcases h with h | h
          · rcases List.mem_cons.mp h with h | h
            · exact absurd h e
            · exact absurd h z
          · exact h
        unfold lkS
        split
        · exact h'
        · rw [al_put, if_neg e]
          exact h'
theorem lkS_mem {R : List Str} {t o : Str → Str → List Str} {d : Str} : ∀ (Rs : List Str) (l : List (Str × PyData)), (∀ x ∈ Rs, x ∈ R) → (∀ p ∈ l, p.1 ∈ R) → (l.map (·.1)).Nodup → (∀ p ∈ Rs.foldl (lkS R t o d) l, p.1 ∈ R) ∧ ((Rs.foldl (lkS R t o d) l).map (·.1)).Nodup ∧ (Rs.foldl (lkS R t o d) l).length ≤ l.length + Rs.length
  | [], l, _, h, n => ⟨h, n, by simp⟩
  | y :: Rs, l, hR, h, n => by
    rw [List.foldl_cons]
    have a1 : ∀ p ∈ lkS R t o d l y, p.1 ∈ R := by
      unfold lkS
      split
      · exact h
      · intro p hp
        rcases mem_aput hp with hp | rfl
        · exact h p hp
        · exact hR y List.mem_cons_self
    have a2 : ((lkS R t o d l y).map (·.1)).Nodup := by
      unfold lkS
      split
      · exact n
      · exact aput_nodup n _ _
    have a3 : (lkS R t o d l y).length ≤ l.length + 1 := by
      unfold lkS
      split
      · omega
      · exact aput_len _ _ _
    obtain ⟨b1, b2, b3⟩ := lkS_mem (t := t) (o := o) (d := d) Rs _ (fun x hx => hR x (List.mem_cons_of_mem _ hx)) a1 a2
    exact ⟨b1, b2, by rw [List.length_cons]; omega⟩
theorem lkR_ok {R : List Str} {t o : Str → Str → List Str} {d : Str} (hd : d ∈ R) (hz : R.length ≤ 10) : LinksOk R (lkF R t o d) (R.foldl (lkS R t o d) [(d, tupS [])]) := by
  have e0 : tupS (lkF R t o d d) = tupS [] := by unfold lkF; rw [if_pos rfl]
  obtain ⟨b1, b2, b3⟩ := lkS_mem (R := R) (t := t) (o := o) (d := d) R [(d, tupS [])] (fun _ h => h) (fun p hp => by rw [List.mem_singleton.mp hp]; exact hd) (by simp)
  refine ⟨fun x hx => lkS_al R _ x (.inl hx) (by rw [al_pos (p := (d, tupS [])) rfl, e0]), b1, b2, ?_, fun x hx y hy => ?_, fun x hx => ?_⟩
  · have : [(d, tupS [])].length = 1 := rfl
    omega
  · unfold lkF at hy
    split at hy
    · cases hy
    · exact (List.mem_filter.mp hy).1
  · unfold lkF
    split
    · exact Nat.zero_le _
    · exact Nat.le_trans (List.length_filter_le _ _) hz
section
variable {P : Program} {w : World} {K : PySem.W.Frag} {mg : Str → Option Value} {base : Heap} {C : Addr}
theorem tb_dt {R : List Str} {f : Str → Str → List Str} {v : V} {H : Hp} (h : Tb R f v H) : ∃ tab, TabOk R f tab ∧ Dt tab v H := by
  obtain ⟨a, tab, rfl, o, t⟩ := h
  exact ⟨tab, o, t.dt⟩
/-- a table's item -/
theorem ev_tb {σ : L2.St} {H : Hp} {td ty : TE} {R : List Str} {f : Str → Str → List Str} {a d : Str} (hd : Ev td σ H (Tb R f)) (hk : Ev ty σ H (Dd (tupS [a, d]))) (ha : a ∈ R) (hd' : d ∈ R) : Ev (tDGet td ty) σ H (Dd (tupS (f a d))) := fun H1 s Q q => hd H1 s _ fun x H2 s2 p => hk H2 (s.trans s2) _ fun y H3 s3 p3 => by
  obtain ⟨tab, o, t⟩ := tb_dt (stb_tb R f x H2 H3 s3 p)
  obtain ⟨a', o', rfl, g, _, h⟩ := dt_get t p3
  obtain ⟨u, rfl, ru⟩ := h _ (o.get a ha d hd')
  exact ⟨a', u, rfl, g, q u H3 (s2.trans s3) ru⟩
theorem ev_pair {σ : L2.St} {H : Hp} {ta tb : TE} {a b : Str} (h1 : Ev ta σ H (Dd (.str a))) (h2 : Ev tb σ H (Dd (.str b))) : Ev (tTup (tCons ta (tCons tb tNil))) σ H (Dd (tupS [a, b])) := ev_tup (ds := [.str a, .str b]) (ea_d h1 (ea_d h2 ea_nil)) (by simp)
abbrev sLinksTowards : Stmt := top 41
theorem scLinksTowards : FnScope ["routers", "tables", "others", "d", "found", "router", "some", "one"] ["routers", "tables", "others", "d"] (defScope sLinksTowards) := ⟨rfl, rfl, rfl, by decide +kernel, rfl, by decide +kernel, by decide +kernel⟩
def spLinksTowards : Sp := fun vs H Q _ => ∃ (v1 v2 v3 : V) (d : Str) (R : List Str) (t o : Str → Str → List Str), vs = [v1, v2, v3, .str d] ∧ Rp H v1 (tupS R) ∧ R.length ≤ 10 ∧ d ∈ R ∧ Tb R t v2 H ∧ Tb R o v3 H ∧ ∀ a lk H', Same H H' → LinksOk R (lkF R t o d) lk → DK H' a lk → Q (.ref a) H'
theorem cal_links_towards (D : Std K mg "links_towards" sLinksTowards) (T : Gc mg) : Cal P w K mg base "links_towards" ["routers", "tables", "others", "d"] 1 spLinksTowards := by
  refine D.cal scLinksTowards (fun vs H Q E h => ?_) (fun _ _ _ _ _ _ us hl => match us, hl with | [_, _, _, _], _ => rfl) (fun f cdv A outer s H vs Q E hr h => ?_)
  · obtain ⟨v1, v2, v3, d, R, t, o, rfl, _⟩ := h
    rfl
  · obtain ⟨v1, v2, v3, d, R, t, o, rfl, h1, h8, hd, h2, h3, k⟩ := h
    have nd := scLinksTowards.nd
    have hu := hu_of hr
    refine ⟨_, (pss_cons (ps_set (i := 4) nd rfl (Or.inl rfl) (pe_disp (pps_cons (pv 3) (pe_tup pa_nil) pps_nil) (by rfl) (by rfl) (fun z => by cases z) (by decide)))
 (pss_cons (ps_for PassesOwn.never rfl (k_piT (K := K) (pv 0)) (pg_name (i := 5) nd rfl (Or.inl rfl))
 (pss_one (ps_if (pt_cmpR op_ne (pv 5) (pv 3) (nomark _)) (pss_cons (ps_set (i := 6) nd rfl (Or.inr rfl) (pe_op (k_catA (K := K)) (pe_dget hu (pv 1) (pe_tup (pa_cons (pv 5) (pa_cons (pv 3) pa_nil))) (fun _ _ => rfl)) (pe_dget hu (pv 2) (pe_tup (pa_cons (pv 5) (pa_cons (pv 3) pa_nil))) (fun _ _ => rfl))))
 (pss_one (ps_dput hu (pv 4) (pv 5) (pe_callTy (k_tup (K := K)) (by rfl) T.b.tuple (by decide +kernel) (pa_cons (pe_lc (own := [("one", 7)]) rfl nd (k_piT (K := K) (pv 0)) (blkOk_by (by kernel_rfl)) (fun _ _ _ _ _ => (pg_name (i := 7) nd rfl (Or.inl rfl))) (fun _ _ _ _ _ => (pts_one (pt_cmpR (k_in (K := K)) (pv 7) (pv 6) rfl))) (fun _ _ _ _ _ => (pv 7))) pa_nil)) rfl))) pss_nil)))
 (pss_one (ps_ret (pv 4))))), ?_⟩
    refine fun F hF => ⟨.str d, rfl, ?_⟩
    have hF0 : Same H (upd H F (.dK [])) := same_new hF
    refine ev_tup (ds := []) ea_nil (by simp) (upd H F (.dK [])) (Same.refl _) _ fun ve He se pe => ?_
    refine ⟨se _ _ upd_same, [(sk d, ve)], rfl, by show 1 ≤ 15; decide, ?_⟩
    have tke : Tk He (upd He F (.dK (mergeK [] [(sk d, ve)]))) := tk_upd fun xs z => by rw [se _ _ upd_same] at z; cases z
    have kF : DK (upd He F (.dK (mergeK [] [(sk d, ve)]))) F [(d, tupS [])] := ⟨_, upd_same, .cons (Rp.up pe tke) .nil⟩
    have sF : SmX F H (upd He F (.dK (mergeK [] [(sk d, ve)]))) := ((SmX.of hF0).trans (.of se)).upd
    generalize upd He F (.dK (mergeK [] [(sk d, ve)])) = HF at kF sF
    have nF : ∀ xs, H F ≠ some (.tup xs) := fun xs z => by rw [hF] at z; cases z
    have up : ∀ {H'}, SmX F H H' → Rp H' v1 (tupS R) ∧ Tb R t v2 H' ∧ Tb R o v3 H' := fun {H'} x => by
      have s0 := x.same (Same.refl _) hF
      exact ⟨h1.sm s0, stb_tb _ _ _ _ _ s0 h2, stb_tb _ _ _ _ _ s0 h3⟩
    refine nx_of ?_
    refine s_forT (ev_varD rfl (up sF).1) (fun H1 i σ' H' => (∃ a b c, σ' = [some v1, some v2, some v3, some (.str d), some (.ref F), a, b, c]) ∧ SmX F H H' ∧ SmX F H1 H' ∧ DK H' F ((R.take i).foldl (lkS R t o d) [(d, tupS [])])) (fun H1 s1 => ⟨⟨_, _, _, rfl⟩, sF.trans (.of s1), .refl _, kF.sm s1⟩) (fun H1 i σ' H' s1 q => q.2.2.1.tk (dk_tup (kF.sm s1))) ?_ ?_
    · rintro H1 i e v σ' H' s1 he ⟨⟨a, b, c, rfl⟩, x0, x1, q⟩ rv
      rw [List.getElem?_map] at he
      cases hk : R[i]? with
      | none => rw [hk] at he; cases he
      | some r =>
        rw [hk] at he
        cases he
        rw [rp_str rv]
        have hr0 : r ∈ R := List.mem_of_getElem? hk
        have bl : ((R.take i).foldl (lkS R t o d) [(d, tupS [])]).length ≤ 100 := by
          have := (lkS_mem (R := R) (t := t) (o := o) (d := d) (R.take i) [(d, tupS [])] (fun _ h => List.mem_of_mem_take h) (fun p hp => by rw [List.mem_singleton.mp hp]; exact hd) (by simp)).2.2
          have h3 : [(d, tupS [])].length = 1 := rfl
          rw [List.length_take] at this
          omega
        have et : (R.take (i + 1)).foldl (lkS R t o d) [(d, tupS [])] = lkS R t o d ((R.take i).foldl (lkS R t o d) [(d, tupS [])]) r := by rw [take_succ hk, List.foldl_append] <;> rfl
        rw [et]
        generalize (R.take i).foldl (lkS R t o d) [(d, tupS [])] = l0 at q bl
        obtain ⟨w1, w2, w3⟩ := up x0
        have tl := (tb_dt w2).choose_spec.1.len r hr0 d hd
        have ol := (tb_dt w3).choose_spec.1.len r hr0 d hd
        refine s_if (b := !decide (r = d)) (et_test (ev_neS (ev_varS rfl) (ev_varS rfl))) (fun e H2 s2 => ?_) (fun e H2 s2 => ?_)
        · have ne : ¬ r = d := by simpa using e
          refine s_set (P := Dd (tupS (t r d ++ o r d))) (ev_is (ev_catT (ev_tb (ev_var rfl (stb_tb _ _ _ _ _ s2 w2) (stb_tb _ _)) (ev_pair (ev_varS rfl) (ev_varS rfl)) hr0 hd) (ev_tb (ev_var rfl (stb_tb _ _ _ _ _ s2 w3) (stb_tb _ _)) (ev_pair (ev_varS rfl) (ev_varS rfl)) hr0 hd) (by rw [List.length_map, List.length_map]; omega)) (by simp only [tupS, List.map_append])) fun v6 H3 s3 p3 => ?_
          refine nx_of ?_
          refine s_dputK (k := r) (d := tupS (lkF R t o d r)) (ev_is (ev_tupL (ev_lcTS (fun y => decide (y ∈ t r d ++ o r d)) PyData.str (ev_varD rfl ((w1.sm s2).sm s3)) (by omega) (fun _ => rfl) fun y hy H4 s4 => ⟨et_test (ev_inT (ev_varS rfl) (ev_varD rfl (Rp.sm p3 s4))), fun _ => ev_varS rfl⟩)) (by unfold lkF; rw [if_neg ne])) (ev_varX rfl) (ev_varS rfl) ((q.sm s2).sm s3) (by omega) fun H5 o5 s5 t5 => ?_
          have xs' := ((x0.trans (.of s2)).trans (.of s3)).trans (.of s5)
          refine ⟨⟨_, _, _, rfl⟩, xs'.upd, (((x1.trans (.of s2)).trans (.of s3)).trans (.of s5)).upd, ?_⟩
          unfold lkS
          rw [if_neg ne]
          exact t5
        · have ee : r = d := by simpa using e
          refine (show (∃ a b c, _ = [some v1, some v2, some v3, some (V.str d), some (V.ref F), a, b, c]) ∧ SmX F H H2 ∧ SmX F H1 H2 ∧ DK H2 F (lkS R t o d l0 r) from ⟨⟨_, _, _, rfl⟩, x0.trans (.of s2), x1.trans (.of s2), ?_⟩)
          unfold lkS
          rw [if_pos ee]
          exact q.sm s2
    · rintro H1 σ' H' s1 ⟨⟨a, b, c, rfl⟩, x0, x1, q⟩
      rw [List.length_map, List.take_length] at q
      refine nx_of ?_
      refine s_ret (ev_varX rfl) fun v H2 s2 p => ?_
      obtain rfl : v = .ref F := p
      exact k F _ H2 ((x0.same (Same.refl _) hF).trans s2) (lkR_ok hd h8) (q.sm s2)
end
end Qt
/-! Qn: ranked. -/
namespace Qt
open PySem PySem.Spec PyProof.Rows L2
/-! ### what the ranks are -/
structure RkOk (R : List Str) (f : Str → List Str) (rk : Di) (Lf : List Str) : Prop where
  cov : ∀ x ∈ R, (al rk x).isSome = true ∨ x ∈ Lf
  lsub : ∀ x ∈ Lf, x ∈ R
  lno : ∀ x ∈ Lf, al rk x = none
  nodup : Lf.Nodup
  ord : ∀ x i, al rk x = some i → ∀ y ∈ f x, ∃ j, al rk y = some j ∧ j < i
  len : rk.length + Lf.length ≤ 100
/-- behind the loop -/
structure RkEnd (R : List Str) (f : Str → List Str) (rk : Di) (Lf : List Str) : Prop extends RkOk R f rk Lf where
  stuck : ∀ x ∈ Lf, ∃ y ∈ f x, y ∈ Lf
def rdy (f : Str → List Str) (rk : Di) (Lf : List Str) : List Str := Lf.filter fun x => (f x).all fun y => (al rk y).isSome
/-- within the for -/
structure RkMid (R : List Str) (f : Str → List Str) (rk : Di) (rd : List Str) (j : Nat) (rk' : Di) : Prop where
  keep : ∀ y i, al rk y = some i → al rk' y = some i
  new : ∀ y ∈ rd.take j, (al rk' y).isSome = true
  no : ∀ y, al rk y = none → y ∉ rd.take j → al rk' y = none
  ord : ∀ x i, al rk' x = some i → ∀ y ∈ f x, ∃ k, al rk' y = some k ∧ k < i
  len : rk'.length ≤ rk.length + j
theorem RkOk.mid0 {R : List Str} {f : Str → List Str} {rk : Di} {Lf : List Str} (o : RkOk R f rk Lf) (rd : List Str) : RkMid R f rk rd 0 rk := ⟨fun _ _ h => h, fun y hy => by simp at hy, fun _ h _ => h, o.ord, by omega⟩
theorem RkMid.step {R : List Str} {f : Str → List Str} {rk rk' : Di} {Lf : List Str} {j : Nat} {x : Str} {m : Int} (o : RkOk R f rk Lf) (h : RkMid R f rk (rdy f rk Lf) j rk') (hx : (rdy f rk Lf)[j]? = some x)
    (hm : ∀ y ∈ f x, ∃ k, al rk' y = some k ∧ k ≤ m) : RkMid R f rk (rdy f rk Lf) (j + 1) (aput rk' x (1 + m)) := by
  have nd : (rdy f rk Lf).Nodup := o.nodup.filter _
  have hxm : x ∈ rdy f rk Lf := List.mem_of_getElem? hx
  have hxL : x ∈ Lf := (List.mem_filter.mp hxm).1
  have hx0 : al rk x = none := o.lno x hxL
  have hnt : x ∉ (rdy f rk Lf).take j := by
    intro hc
    have hj : j < (rdy f rk Lf).length := (List.getElem?_eq_some_iff.mp hx).1
    obtain ⟨i, hi, e⟩ := List.getElem_of_mem hc
    rw [List.length_take] at hi
    rw [List.getElem_take] at e
    have hx' := (List.getElem?_eq_some_iff.mp hx).2
    exact (List.pairwise_iff_getElem.mp nd) i j (by omega) hj (by omega) (e.trans hx'.symm)
  have hx1 : al rk' x = none := h.no x hx0 hnt
  refine ⟨fun y i hy => ?_, fun y hy => ?_, fun y hy hn => ?_, fun z i hz y hy => ?_, ?_⟩
  · rw [al_put, if_neg (fun e => by rw [e, hx0] at hy; cases hy)]
    exact h.keep y i hy
  · rw [al_put]
    split
    · rfl
    · rename_i n
      rw [take_succ hx, List.mem_append] at hy
      rcases hy with hy | hy
      · exact h.new y hy
      · exact absurd (List.mem_singleton.mp hy) n
  · rw [take_succ hx, List.mem_append] at hn
    rw [al_put, if_neg (fun e => hn (.inr (by rw [e]; exact List.mem_singleton.mpr rfl)))]
    exact h.no y hy (fun z => hn (.inl z))
  · have nx : ∀ y k, al rk' y = some k → al (aput rk' x (1 + m)) y = some k := fun y k hy => by
      rw [al_put, if_neg (fun e => by rw [e, hx1] at hy; cases hy)]
      exact hy
    rw [al_put] at hz
    by_cases e : z = x
    · rw [if_pos e] at hz
      cases hz
      subst e
      obtain ⟨k, hk, hkm⟩ := hm y hy
      exact ⟨k, nx y k hk, by omega⟩
    · rw [if_neg e] at hz
      obtain ⟨k, hk, hlt⟩ := h.ord z i hz y hy
      exact ⟨k, nx y k hk, hlt⟩
  · have h1 := aput_len rk' x (1 + m)
    have h2 := h.len
    omega
theorem RkMid.fin {R : List Str} {f : Str → List Str} {rk rk' : Di} {Lf : List Str} (o : RkOk R f rk Lf) (h : RkMid R f rk (rdy f rk Lf) (rdy f rk Lf).length rk') : RkOk R f rk' (Lf.filter fun x => !decide (x ∈ rdy f rk Lf)) := by
  have ht : (rdy f rk Lf).take (rdy f rk Lf).length = rdy f rk Lf := List.take_length
  have hn := h.new
  have hno := h.no
  rw [ht] at hn hno
  refine ⟨fun x hx => ?_, fun x hx => o.lsub x (List.mem_filter.mp hx).1, fun x hx => ?_, o.nodup.filter _, h.ord, ?_⟩
  · rcases o.cov x hx with hc | hc
    · obtain ⟨i, hi⟩ := Option.isSome_iff_exists.mp hc
      left
      rw [h.keep x i hi]
      rfl
    · by_cases hr : x ∈ rdy f rk Lf
      · exact .inl (hn x hr)
      · exact .inr (List.mem_filter.mpr ⟨hc, by simp [hr]⟩)
  · obtain ⟨h1, h2⟩ := List.mem_filter.mp hx
    exact hno x (o.lno x h1) (by simpa using h2)
  · have h1 := h.len
    have h2 := o.len
    have h3 : (Lf.filter fun x => !decide (x ∈ rdy f rk Lf)).length + (rdy f rk Lf).length ≤ Lf.length := by
      have e : rdy f rk Lf = Lf.filter fun x => decide (x ∈ rdy f rk Lf) := by
        refine List.filter_congr fun x hx => ?_
        rw [Bool.eq_iff_iff, decide_eq_true_iff]
        exact ⟨fun h => List.mem_filter.mpr ⟨hx, h⟩, fun h => (List.mem_filter.mp h).2⟩
      have hc : ∀ (p : Str → Bool) (l : List Str), (l.filter fun x => !p x).length + (l.filter p).length = l.length := by
        intro p l
        induction l with
        | nil => rfl
        | cons a r ih =>
          rw [List.filter_cons, List.filter_cons]
          cases p a <;> simp <;> omega
      have := hc (fun x => decide (x ∈ rdy f rk Lf)) Lf
      rw [← e] at this
      exact Nat.le_of_eq this
    omega
theorem RkOk.end_ {R : List Str} {f : Str → List Str} {rk : Di} {Lf : List Str} (o : RkOk R f rk Lf) (fs : ∀ x ∈ R, ∀ y ∈ f x, y ∈ R) (h : rdy f rk Lf = []) : RkEnd R f rk Lf := by
  refine { toRkOk := o, stuck := fun x hx => ?_ }
  have hn : ¬ ((f x).all fun y => (al rk y).isSome) = true := fun hq => by
    have hm : x ∈ rdy f rk Lf := List.mem_filter.mpr ⟨hx, hq⟩
    rw [h] at hm
    cases hm
  rw [List.all_eq_true] at hn
  apply Classical.byContradiction
  intro hc
  refine hn fun y hy => ?_
  rcases o.cov y (fs x (o.lsub x hx) y hy) with h1 | h1
  · exact h1
  · exact absurd ⟨y, hy, h1⟩ hc
/-! ### while -/
theorem s_while {c : TT} {tb : TS} {D : Ends} {σ : L2.St} {H : Hp} (W : Nat → L2.St → Hp → Prop) (m0 : Nat) (h0 : W m0 σ H)
    (hs : ∀ m σ' H', W m σ' H' → ∃ b, EvT c σ' H' b ∧ (b = true → ∀ H1, Same H' H1 → tb { D with nx := fun σ2 H2 => ∃ m', m' < m ∧ W m' σ2 H2, ct := fun σ2 H2 => ∃ m', m' < m ∧ W m' σ2 H2, bk := D.nx } σ' H1) ∧ (b = false → ∀ H1, Same H' H1 → D.nx σ' H1)) : tWhile c tb D σ H := by
  refine ⟨W, ⟨m0, h0⟩, fun m σ' H' w => ?_⟩
  obtain ⟨b, e, h1, h2⟩ := hs m σ' H' w
  refine e H' (Same.refl _) _ fun H1 s1 => ?_
  cases b with
  | true => exact ⟨_, fun _ _ z => z, h1 rfl H1 s1⟩
  | false => exact h2 rfl H1 s1
theorem ls_x {F : Addr} {H H' : Hp} {l : List (Str × PyData)} {ds : List PyData} {v : V} (k : DK H F l) (s : SmX F H H') (h : Ls ds v H) : Ls ds v H' := by
  obtain ⟨p, xs, e, h1, h2⟩ := h
  have n : p ≠ F := fun z => by
    obtain ⟨kvs, e1, _⟩ := k
    rw [z, e1] at h1
    cases h1
  exact ⟨p, xs, e, s p _ n h1, h2.up (s.tk (dk_tup k))⟩
theorem shaped_lstS {R : List Str} (h : ∀ x ∈ R, PyData.strOk x = true) : SeqAt.shaped (.list (R.map PyData.str)) = true := by
  unfold SeqAt.shaped
  rw [Bool.and_eq_true]
  have h2 : (PyData.list (R.map PyData.str)).depth ≤ 64 := by
    have := depth_strs R
    simp only [PyData.depth]
    omega
  exact ⟨by simp only [PyData.canLay0]; exact lay_strs R h, decide_eq_true h2⟩
theorem eqv_lstS (R S : List Str) : PyData.eqv (.list (R.map PyData.str)) (.list (S.map PyData.str)) = decide (R = S) := by
  have e : PyData.eqv (.list (R.map PyData.str)) (.list (S.map PyData.str)) = PyData.eqvAll (R.map PyData.str) (S.map PyData.str) := by simp only [PyData.eqv]
  rw [e]
  exact eqv_strs R S
/-- a list of ints, by its items -/
theorem rp_ints : ∀ {ns : List Int} {vs : List V} {H : Hp}, RpAll H vs (ns.map PyData.int) → vs = ns.map V.int
  | [], _, _, h => by cases h; rfl
  | n :: ns, _, _, h => by
    cases h with
    | cons h1 h2 => rw [rp_int h1, rp_ints h2]; rfl
/-- max(l, default=d) as an evaluation: P of every m that it may be -/
theorem ev_mxd {K : PySem.W.Frag} {σ : L2.St} {H : Hp} {tl td : TE} {ns : List Int} {d : Int} {P : Int → Prop} (h : Ev tl σ H (Ls (ns.map PyData.int))) (hd : Ev td σ H (Dd (.int d))) (hP : ∀ m, ((ns = [] ∧ m = d) ∨ (m ∈ ns ∧ ∀ y ∈ ns, y ≤ m)) → P m) :
    Ev (tCKw (rMxD K) (tCons tl tNil) (tCons td tNil)) σ H (fun v H' => ∃ m, v = .int m ∧ P m) := fun H1 s Q q => h H1 s _ fun v H2 s2 p => hd H2 (s.trans s2) _ fun u H3 s3 p3 => by
  obtain ⟨a, xs, rfl, h1, h2⟩ := stb_l _ _ _ _ s3 p
  rw [rp_ints h2] at h1
  refine ⟨a, ns, d, rfl, ?_, SqL.of h1, fun m hm => q _ H3 (s2.trans s3) ⟨m, rfl, hP m hm⟩⟩
  show [u] = [V.int d]
  rw [rp_int p3]
/-- a[x] = v, what is written known by a word -/
theorem s_dputKx {σ : L2.St} {H : Hp} {td ty tv : TE} {D : Ends} {a : Addr} {Pd : PyData → Prop} {l : List (Str × PyData)} {k : Str} (hv : Ev tv σ H (fun v H' => ∃ d, Pd d ∧ Rp H' v d)) (hd : Ev td σ H (Ex (.ref a))) (hk : Ev ty σ H (Dd (.str k))) (h : DK H a l) (hz : l.length ≤ 50000)
    (q : ∀ d H1 o, Pd d → Same H H1 → DK (upd H1 a o) a (aput l k d) → D.nx σ (upd H1 a o)) : sDPut td ty tv D σ H := hv H (Same.refl _) _ fun v H1 s1 ⟨d, pd, p1⟩ => hd H1 s1 _ fun x H2 s2 p2 => hk H2 (s1.trans s2) _ fun y H3 s3 p3 => by
  obtain rfl : x = .ref a := p2
  have s := (s1.trans s2).trans s3
  obtain ⟨H', g, t, o, rfl⟩ := (h.sm s).put p3 (p1.sm (s2.trans s3)) hz
  exact ⟨a, _, rfl, g, q d H3 o pd s t⟩
section
variable {P : Program} {w : World} {K : PySem.W.Frag} {mg : Str → Option Value} {base : Heap} {C : Addr}
abbrev sRanked : Stmt := top 42
theorem scRanked : FnScope ["links", "ranks", "left", "is_done", "ready", "router", "one"] ["links"] (defScope sRanked) := ⟨rfl, rfl, rfl, by decide +kernel, rfl, by decide +kernel, by decide +kernel⟩
def RankR (R : List Str) (f : Str → List Str) : VP := fun v H => ∃ t F vl Lf rk, v = .ref t ∧ H t = some (.tup [.ref F, vl]) ∧ Ls (Lf.map PyData.str) vl H ∧ RkEnd R f rk Lf
theorem stb_rank (R : List Str) (f : Str → List Str) : Stb (RankR R f) := fun v H H' s ⟨t, F, vl, Lf, rk, e, h1, h2, h3⟩ => ⟨t, F, vl, Lf, rk, e, s _ _ h1, stb_l _ _ _ _ s h2, h3⟩
def spRanked : Sp := fun vs H Q _ => ∃ (L : Addr) (R : List Str) (f : Str → List Str) (lk : List (Str × PyData)), vs = [.ref L] ∧ LinksOk R f lk ∧ (∀ x ∈ R, PyData.strOk x = true) ∧ DK H L lk ∧ ∀ v H', Same H H' → RankR R f v H' → Q v H'
theorem keys_kV {H : Hp} {kvs : List (Key × V)} {l : List (Str × PyData)} (h : KvR H sk kvs l) : (kvs.map fun kv => kV kv.1) = (l.map (·.1)).map V.str := by
  induction h with
  | nil => rfl
  | cons _ _ ih => rw [List.map_cons, ih] <;> rfl
theorem cal_ranked (D : Std K mg "ranked" sRanked) (T : Gc mg) : Cal P w K mg base "ranked" ["links"] 1 spRanked := by
  refine D.cal scRanked (fun vs H Q E h => ?_) (fun _ _ _ _ _ _ us hl => match us, hl with | [_], _ => rfl) (fun f cdv A outer s H vs Q E hr h => ?_)
  · obtain ⟨L, R, f, lk, rfl, _⟩ := h
    rfl
  · obtain ⟨L, R, f, lk, rfl, ok, so, h1, k⟩ := h
    have nd := scRanked.nd
    have hu := hu_of hr
    refine ⟨_, (pss_cons (ps_asg (pe_tup (pa_cons pe_dnewK (pa_cons (pe_callTy (call_list_dK rfl) (by rfl) T.b.list (by decide +kernel) (pa_cons (pv 0) pa_nil)) (pa_cons pe_bl pa_nil)))) (k_tgT (K := K) (n := 3) rfl (pgs_cons (pg_name (i := 1) nd rfl (Or.inr rfl)) (pgs_cons (pg_name (i := 2) nd rfl (Or.inl rfl)) (pgs_cons (pg_name (i := 3) nd rfl (Or.inl rfl)) pgs_nil)))))
 (pss_cons (ps_while PassesOwn.never (pt_not (pt_val (pv 3))) (pss_cons (ps_set (i := 4) nd rfl (Or.inr rfl) (pe_lc (own := [("router", 5)]) rfl nd (k_piL (K := K) (pv 2)) (blkOk_by (by kernel_rfl)) (fun _ _ _ _ _ => (pg_name (i := 5) nd rfl (Or.inl rfl))) (fun _ _ _ _ _ => (pts_one (pt_val (pe_callB (k_all (K := K) rfl) (by rfl) T.b.all (by decide +kernel) (pa_cons (pe_lc (own := [("one", 6)]) rfl nd (k_piT (K := K) (pe_dget hu (pv 0) (pv 5) (fun _ _ => rfl))) (blkOk_by (by kernel_rfl)) (fun _ _ _ _ _ => (pg_name (i := 6) nd rfl (Or.inl rfl))) (fun _ _ _ _ _ => pts_nil) (fun _ _ _ _ _ => (pe_cmp (pc_din hu (pv 6) (pv 1))))) pa_nil))))) (fun _ _ _ _ _ => (pv 5))))
 (pss_cons (ps_for PassesOwn.never rfl (k_piL (K := K) (pv 4)) (pg_name (i := 5) nd rfl (Or.inl rfl))
 (pss_one (ps_dput hu (pv 1) (pv 5) (pe_op op_add pe_int (pe_callBK (k_mxd (K := K) rfl) (by rfl) T.b.max (by decide +kernel) (pa_cons (pe_lc (own := [("one", 6)]) rfl nd (k_piT (K := K) (pe_dget hu (pv 0) (pv 5) (fun _ _ => rfl))) (blkOk_by (by kernel_rfl)) (fun _ _ _ _ _ => (pg_name (i := 6) nd rfl (Or.inl rfl))) (fun _ _ _ _ _ => pts_nil) (fun _ _ _ _ _ => (pe_dget hu (pv 1) (pv 6) (fun _ _ => rfl)))) pa_nil) (pk_cons (pe_un un_neg pe_int) pk_nil))) rfl)))
 (pss_cons (ps_setLc (i := 2) (own := [("router", 5)]) rfl nd rfl rfl (sw_true rfl rfl rfl (by decide +kernel)) (k_piL (K := K) (pv 2)) (blkOk_by (by kernel_rfl)) (fun _ _ _ _ _ => (pg_name (i := 5) nd rfl (Or.inl rfl))) (fun _ _ _ _ _ => (pts_one (pt_cmpR (k_notIn (K := K)) (pv 5) (pv 4) rfl))) (fun _ _ _ _ _ => (pv 5)))
 (pss_one (ps_set (i := 3) nd rfl (Or.inl rfl) (pe_cmpR (k_eqD (K := K) hr.units) (pv 4) (pe_lst pa_nil) (nomark _))))))))
 (pss_one (ps_ret (pe_tup (pa_cons (pv 1) (pa_cons (pv 2) pa_nil))))))), ?_⟩
    obtain ⟨kvs, hL, kv⟩ := h1
    refine fun F hF => ?_
    have sF : Same H (upd H F (.dK [])) := same_new hF
    have nLF : L ≠ F := ne_of_none hL hF
    refine ⟨.ref L, rfl, L, kvs, rfl, sF _ _ hL, fun q hq => ?_⟩
    rw [keys_kV kv]
    have sq : Same (upd H F (.dK [])) (upd (upd H F (.dK [])) q (.lst ((lk.map (·.1)).map V.str))) := same_new hq
    have hq1 : upd (upd H F (.dK [])) q (.lst ((lk.map (·.1)).map V.str)) q = some (.lst ((lk.map (·.1)).map V.str)) := upd_same
    have hF1 : upd (upd H F (.dK [])) q (.lst ((lk.map (·.1)).map V.str)) F = some (.dK []) := sq _ _ upd_same
    have s01 : Same H (upd (upd H F (.dK [])) q (.lst ((lk.map (·.1)).map V.str))) := sF.trans sq
    generalize upd (upd H F (.dK [])) q (.lst ((lk.map (·.1)).map V.str)) = Hq at hq1 hF1 s01
    refine ⟨by show 3 ≤ sizeLine; decide, fun t ht => ?_⟩
    refine ⟨t, _, rfl, SqT.of upd_same, rfl, _, _, rfl, _, _, rfl, _, _, rfl, rfl, ?_⟩
    have st : Same Hq (upd Hq t (.tup [.ref F, .ref q, .bl false])) := same_new ht
    have s0 : Same H (upd Hq t (.tup [.ref F, .ref q, .bl false])) := s01.trans st
    have k0 : DK (upd Hq t (.tup [.ref F, .ref q, .bl false])) F (diD []) := ⟨_, st _ _ hF1, .nil⟩
    have l0 : Ls ((lk.map (·.1)).map PyData.str) (.ref q) (upd Hq t (.tup [.ref F, .ref q, .bl false])) := ⟨q, _, rfl, st _ _ hq1, rp_tupS_all.mpr rfl⟩
    generalize upd Hq t (.tup [.ref F, .ref q, .bl false]) = H0 at s0 k0 l0
    have nF : ∀ xs, H F ≠ some (.tup xs) := fun xs z => by rw [hF] at z; cases z
    have dkL : ∀ {H'}, SmX F H H' → Dk lk (.ref L) H' := fun {H'} x => ⟨L, kvs, rfl, .inl (x _ _ nLF hL), kv.up (x.tk nF)⟩
    have rk0 : RkOk R f [] (lk.map (·.1)) := by
      refine ⟨fun x hx => .inr ?_, fun x hx => ?_, fun _ _ => rfl, ok.nodup, fun x i h => (by cases h), (by have := ok.few; rw [List.length_map, List.length_nil]; omega)⟩
      · exact List.mem_map.mpr ⟨_, al_mem (ok.get x hx), rfl⟩
      · obtain ⟨p, hp, rfl⟩ := List.mem_map.mp hx
        exact ok.mem p hp
    refine nx_of ?_
    refine s_while (W := fun m σ' H' => ∃ vl Lf rk done a b c, σ' = [some (.ref L), some (.ref F), some vl, some (.bl done), a, b, c] ∧ SmX F H H' ∧ DK H' F (diD rk) ∧ Ls (Lf.map PyData.str) vl H' ∧ RkOk R f rk Lf ∧ m = Lf.length + (if done = true then 0 else 1) ∧ (done = true → rdy f rk Lf = [])) _
      ⟨.ref q, _, [], false, _, _, _, rfl, .of s0, k0, l0, rk0, rfl, fun z => by cases z⟩ ?_
    rintro m σ' H' ⟨vl, Lf, rk, done, a, b, c, rfl, x0, kk, ll, ro, rfl, hd⟩
    refine ⟨!done, et_not (et_test (ev_varD rfl (.bl done))), fun e H1 s1 => ?_, fun e H1 s1 => ?_⟩
    · have ed : done = false := by simpa using e
      subst ed
      have x1 := x0.trans (.of s1)
      have k1 := kk.sm s1
      have lfb : Lf.length ≤ 100 := by have := ro.len; omega
      -- ready
      refine s_set (P := Ls ((rdy f rk Lf).map PyData.str)) (ev_lcLS (fun x => (f x).all fun y => (al rk y).isSome) PyData.str (ev_var rfl (stb_l _ _ _ _ s1 ll) (stb_l _)) (by omega) (fun _ => rfl) fun x hx H2 s2 => ⟨?_, fun _ => ev_varS rfl⟩) fun vr H2 s2 p2 => ?_
      · have hxR := ro.lsub x hx
        refine et_test (ev_is (ev_all (bs := (f x).map fun y => (al rk y).isSome) ?_) (by rw [List.all_map] <;> rfl))
        have eb : (((f x).filter fun _ => true).map fun y => PyData.bool (al rk y).isSome) = ((f x).map fun y => (al rk y).isSome).map PyData.bool := by
          rw [List.filter_eq_self.mpr (fun _ _ => rfl), List.map_map] <;> rfl
        rw [← eb]
        refine ev_lcTS (xs := f x) (fun _ => true) (fun y => PyData.bool (al rk y).isSome) (ev_dgetK (x := x) (ev_var rfl (dkL (x1.trans (.of s2))) (stb_dk _)) (ev_varS rfl) (ok.get x hxR)) (by have := ok.len x hxR; omega) (fun _ => rfl) fun y hy H3 s3 => ⟨et_yes, fun _ => ?_⟩
        exact ev_is (ev_dinK (x := y) (ev_varS rfl) (ev_var rfl ((k1.sm s2).sm s3).dk (stb_dk _))) (by rw [al_diD, Option.isSome_map])
      · refine nx_of ?_
        have x2 := x1.trans (.of s2)
        have k2 := k1.sm s2
        have ll2 := stb_l _ _ _ _ (s1.trans s2) ll
        -- for router in ready
        refine s_forL (ev_var rfl p2 (stb_l _)) (fun H3 j σ'' H'' => ∃ b' rk', σ'' = [some (.ref L), some (.ref F), some vl, some (.bl false), some vr, b', c] ∧ SmX F H H'' ∧ SmX F H3 H'' ∧ DK H'' F (diD rk') ∧ RkMid R f rk (rdy f rk Lf) j rk')
          (fun H3 s3 => ⟨_, rk, rfl, x2.trans (.of s3), .refl _, k2.sm s3, ro.mid0 _⟩) (fun H3 j σ'' H'' s3 ⟨b', rk', e, y1, y2, y3, y4⟩ => y2.tk (dk_tup (k2.sm s3))) (fun H3 p xs j σ'' H'' hp _ s3 ⟨b', rk', e, y1, y2, y3, y4⟩ => y2 p _ (fun z => by
            obtain ⟨ks, e1, _⟩ := k2.sm s3
            rw [z, e1] at hp
            cases hp) hp) ?_ ?_
        · rintro H3 j e v σ'' H'' s3 he ⟨b', rk', rfl, y1, y2, y3, y4⟩ rv
          rw [List.getElem?_map] at he
          cases hk : (rdy f rk Lf)[j]? with
          | none => rw [hk] at he; cases he
          | some x =>
            rw [hk] at he
            cases he
            rw [rp_str rv]
            have hxr : x ∈ rdy f rk Lf := List.mem_of_getElem? hk
            obtain ⟨hxL, hall⟩ := List.mem_filter.mp hxr
            rw [List.all_eq_true] at hall
            have hxR := ro.lsub x hxL
            have isS : ∀ y ∈ f x, ∃ i, al rk' y = some i := fun y hy => by
              obtain ⟨i, hi⟩ := Option.isSome_iff_exists.mp (hall y hy)
              exact ⟨i, y4.keep y i hi⟩
            have hbnd : rk'.length ≤ 300 := by
              have h1 := y4.len
              have h2 := ro.len
              have h3 : j < (rdy f rk Lf).length := (List.getElem?_eq_some_iff.mp hk).1
              have h4 : (rdy f rk Lf).length ≤ Lf.length := List.length_filter_le _ _
              omega
            have emx : (((f x).filter fun _ => true).map fun y => PyData.int ((al rk' y).getD 0)) = ((f x).map fun y => (al rk' y).getD 0).map PyData.int := by
              rw [List.filter_eq_self.mpr (fun _ _ => rfl), List.map_map] <;> rfl
            have hmx : Ev (tCKw (rMxD K) (tCons (tLc (iTup K (tDGet (tVar 0) (tVar 5))) (gName 6) tYes (tDGet (tVar 1) (tVar 6)) [6]) tNil) (tCons (tUn (rU fun i => .int (-i)) (tC (.int 1))) tNil)) [some (.ref L), some (.ref F), some vl, some (.bl false), some vr, some (.str x), c] H'' (fun v _ => ∃ m, v = .int m ∧ ∀ y ∈ f x, ∃ k, al rk' y = some k ∧ k ≤ m) := by
              refine ev_mxd (ns := (f x).map fun y => (al rk' y).getD 0) (d := -1) ?_ (ev_neg ev_int) fun m hm y hy => ?_
              · rw [← emx]
                refine ev_lcTS (xs := f x) (fun _ => true) (fun y => PyData.int ((al rk' y).getD 0)) (ev_dgetK (x := x) (ev_var rfl (dkL y1) (stb_dk _)) (ev_varS rfl) (ok.get x hxR)) (by have := ok.len x hxR; omega) (fun _ => rfl) fun y hy H5 s5 => ⟨et_yes, fun _ => ?_⟩
                obtain ⟨i, hi⟩ := isS y hy
                exact ev_dgetK (x := y) (ev_var rfl (y3.sm s5).dk (stb_dk _)) (ev_varS rfl) (by rw [al_diD, hi]; rfl)
              · obtain ⟨i, hi⟩ := isS y hy
                rcases hm with ⟨h0, _⟩ | ⟨_, h1⟩
                · have : y ∈ ([] : List Str) := by
                    have := List.map_eq_nil_iff.mp h0
                    rw [this] at hy
                    exact hy
                  cases this
                · exact ⟨i, hi, by have := h1 _ (List.mem_map.mpr ⟨y, hy, rfl⟩); rw [hi] at this; exact this⟩
            -- the item is written
            have hv : Ev (tOp (rI0 fun i j => .int (i + j)) (tC (.int 1)) (tCKw (rMxD K) (tCons (tLc (iTup K (tDGet (tVar 0) (tVar 5))) (gName 6) tYes (tDGet (tVar 1) (tVar 6)) [6]) tNil) (tCons (tUn (rU fun i => .int (-i)) (tC (.int 1))) tNil))) [some (.ref L), some (.ref F), some vl, some (.bl false), some vr, some (.str x), c] H'' (fun v H' => ∃ d, (∃ m, d = .int (1 + m) ∧ ∀ y ∈ f x, ∃ k, al rk' y = some k ∧ k ≤ m) ∧ Rp H' v d) :=
              ev_op ev_int (stb_d _) hmx fun u v H1 s p1 p2 Q q => by
                obtain ⟨m, rfl, hm⟩ := p2
                exact ⟨1, m, rp_int p1, rfl, q _ H1 (Same.refl _) ⟨_, ⟨m, rfl, hm⟩, .int _⟩⟩
            refine s_dputKx (k := x) hv (ev_varX rfl) (ev_varS rfl) y3 (by unfold diD aemb; rw [List.length_map]; omega) fun d H5 o hd5 s5 t5 => ?_
            obtain ⟨m, rfl, hm⟩ := hd5
            rw [← diD_put] at t5
            exact ⟨_, _, rfl, (y1.trans (.of s5)).upd, (y2.trans (.of s5)).upd, t5, y4.step ro hk hm⟩
        · rintro H3 σ'' H'' s3 ⟨b', rk', rfl, y1, y2, y3, y4⟩
          rw [List.length_map] at y4
          refine nx_of ?_
          have ll3 := ls_x (k2.sm s3) y2 (stb_l _ _ _ _ s3 ll2)
          have rr3 := ls_x (k2.sm s3) y2 (stb_l _ _ _ _ s3 p2)
          -- left
          refine s_set (P := Ls ((Lf.filter fun x => !decide (x ∈ rdy f rk Lf)).map PyData.str)) (ev_lcLS (fun x => !decide (x ∈ rdy f rk Lf)) PyData.str (ev_var rfl ll3 (stb_l _)) (by omega) (fun _ => rfl) fun x hx H5 s5 => ⟨et_test (ev_notInL (ev_varS rfl) (ev_var rfl (stb_l _ _ _ _ s5 rr3) (stb_l _))), fun _ => ev_varS rfl⟩) fun vl' H5 s5 p5 => ?_
          refine nx_of ?_
          have sor : ∀ x ∈ rdy f rk Lf, PyData.strOk x = true := fun x hx => so x (ro.lsub x (List.mem_filter.mp hx).1)
          refine s_set (P := Dd (.bool (decide (rdy f rk Lf = [])))) (ev_is (ev_eqD (A := Ls ((rdy f rk Lf).map PyData.str)) (B := Ls (([] : List Str).map PyData.str)) (ev_var rfl (stb_l _ _ _ _ s5 rr3) (stb_l _)) (stb_l _) (ev_lst (ds := []) ea_nil (by simp)) (fun _ _ p => dp_ls p) (fun _ _ p => dp_ls p) (shaped_lstS sor) (shaped_lstS (by simp))) (by rw [eqv_lstS])) fun vd H6 s6 p6 => ?_
          rw [rp_bl p6]
          have xx := (y1.trans (.of s5)).trans (.of s6)
          have ro' := y4.fin ro
          by_cases hre : rdy f rk Lf = []
          · refine ⟨Lf.length, ?_, vl', Lf.filter fun x => !decide (x ∈ rdy f rk Lf), rk', true, some vr, b', c, ?_, xx, (y3.sm s5).sm s6, stb_l _ _ _ _ s6 p5, ro', ?_, fun _ => ?_⟩
            · simp
            · rw [decide_eq_true hre]; rfl
            · rw [hre]
              have : (Lf.filter fun x => !decide (x ∈ ([] : List Str))) = Lf := List.filter_eq_self.mpr fun x _ => by simp
              rw [this]
              simp
            · rw [hre] at y4 ⊢
              have e1 : (Lf.filter fun x => !decide (x ∈ ([] : List Str))) = Lf := List.filter_eq_self.mpr fun x _ => by simp
              rw [e1]
              have hke : ∀ y, (al rk' y).isSome = (al rk y).isSome := fun y => by
                cases hy : al rk y with
                | none => rw [y4.no y hy (by simp)]
                | some i => rw [y4.keep y i hy]
              unfold rdy at hre ⊢
              have e2 : (fun x => (f x).all fun y => (al rk' y).isSome) = fun x => (f x).all fun y => (al rk y).isSome := funext fun x => by
                congr 1
                funext y
                exact hke y
              rw [e2]
              exact hre
          · refine ⟨(Lf.filter fun x => !decide (x ∈ rdy f rk Lf)).length + 1, ?_, vl', Lf.filter fun x => !decide (x ∈ rdy f rk Lf), rk', false, some vr, b', c, ?_, xx, (y3.sm s5).sm s6, stb_l _ _ _ _ s6 p5, ro', ?_, fun z => by cases z⟩
            · have h3 : (Lf.filter fun x => !decide (x ∈ rdy f rk Lf)).length < Lf.length := by
                obtain ⟨z, hz⟩ := List.exists_mem_of_ne_nil _ hre
                have hzL : z ∈ Lf := (List.mem_filter.mp hz).1
                refine Nat.lt_of_le_of_ne (List.length_filter_le _ _) fun e => ?_
                have := (List.length_filter_eq_length_iff.mp e) z hzL
                simp [hz] at this
              show _ + 1 < Lf.length + 1
              omega
            · rw [decide_eq_false hre]; rfl
            · simp
    · have ed : done = true := by simpa using e
      subst ed
      have x1 := x0.trans (.of s1)
      have ll1 := stb_l _ _ _ _ s1 ll
      refine nx_of ?_
      refine ⟨_, rfl, _, rfl, by show 2 ≤ sizeLine; decide, fun t ht => ?_⟩
      have st : Same H1 (upd H1 t (.tup [.ref F, vl])) := same_new ht
      exact k _ _ ((x1.same (Same.refl _) hF).trans st) ⟨t, F, vl, Lf, rk, rfl, upd_same, stb_l _ _ _ _ st ll1, ro.end_ ok.sub (hd rfl)⟩
end
end Qt
/-! Qo: ring_in, ring_for, turns. -/
namespace Qt
open PySem PySem.Spec PyProof.Rows L2
theorem cutD_mem {ds : List PyData} {lo hi : Option Int} {d : PyData} (h : d ∈ cutD ds lo hi) : d ∈ ds := List.mem_of_mem_drop (List.mem_of_mem_take h)
theorem cutD_last (ds : List PyData) : cutD ds none (some (-1)) = ds.dropLast := by
  unfold cutD
  show (ds.drop 0).take ((if (-1 : Int) < 0 then ((-1 : Int) + (ds.length : Int)).toNat else min (-1 : Int).toNat ds.length) - 0) = ds.dropLast
  rw [if_pos (by decide), List.drop_zero, Nat.sub_zero, List.dropLast_eq_take]
  congr 1
  omega
/-- all of texts -/
theorem strs_of {R : List Str} : ∀ {ds : List PyData}, (∀ d ∈ ds, d ∈ R.map PyData.str) → ∃ xs : List Str, ds = xs.map PyData.str ∧ ∀ x ∈ xs, x ∈ R
  | [], _ => ⟨[], rfl, fun _ h => by cases h⟩
  | d :: ds, h => by
    obtain ⟨xs, e, hx⟩ := strs_of (R := R) (ds := ds) fun d hd => h d (List.mem_cons_of_mem _ hd)
    obtain ⟨x, hxR, rfl⟩ := List.mem_map.mp (h d List.mem_cons_self)
    refine ⟨x :: xs, by rw [List.map_cons, e], fun y hy => ?_⟩
    rcases List.mem_cons.mp hy with rfl | hy
    · exact hxR
    · exact hx y hy
theorem str_inj (a b : Str) (h : PyData.str a = PyData.str b) : a = b := by injection h
theorem cutD_len (ds : List PyData) (lo hi : Option Int) : (cutD ds lo hi).length ≤ ds.length := by
  unfold cutD
  rw [List.length_take, List.length_drop]
  omega
/-- nodup within: no longer -/
theorem nodup_le {xs ys : List Str} (n : xs.Nodup) (h : ∀ x ∈ xs, x ∈ ys) : xs.length ≤ ys.length := by
  induction xs generalizing ys with
  | nil => exact Nat.zero_le _
  | cons x xs ih =>
    rw [List.nodup_cons] at n
    have hx := h x List.mem_cons_self
    have := ih n.2 (ys := ys.erase x) fun y hy => by
      refine (List.mem_erase_of_ne ?_).mpr (h y (List.mem_cons_of_mem _ hy))
      intro e
      subst e
      exact n.1 hy
    rw [List.length_erase_of_mem hx] at this
    have := List.length_pos_of_mem hx
    rw [List.length_cons]
    omega
theorem first_at {x : Str} : ∀ {xs : List Str}, x ∈ xs → ∃ j : Nat, xs[j]? = some x ∧ ∀ m : Nat, m < j → xs[m]? ≠ some x
  | [], h => by cases h
  | y :: ys, h => by
    by_cases e : y = x
    · exact ⟨0, by rw [e] <;> rfl, fun m hm => absurd hm (Nat.not_lt_zero m)⟩
    · rcases List.mem_cons.mp h with h | h
      · exact absurd h.symm e
      · obtain ⟨j, h1, h2⟩ := first_at h
        refine ⟨j + 1, by simpa using h1, fun m hm => ?_⟩
        cases m with
        | zero => simpa using e
        | succ m => simpa using h2 m (by omega)
section
variable {K : PySem.W.Frag} {σ : L2.St} {H : Hp} {te tx : TE} {xs : List Str} {x : Str}
/-- l.index(x), x there -/
theorem ev_index (h : Ev te σ H (Ls (xs.map PyData.str))) (hx : Ev tx σ H (Dd (.str x))) (hm : x ∈ xs) : Ev (tBM K "list" (rIndex K) te (tCons tx tNil)) σ H (fun v _ => ∃ j : Nat, v = .int j) := fun H1 s Q q => h H1 s _ fun v H2 s2 p => by
  obtain ⟨a, ys, rfl, h1, h2⟩ := p
  rw [rp_tupS_all.mp h2] at h1
  refine ⟨.inl ⟨rfl, _, SqL.of h1⟩, hx H2 (s.trans s2) _ fun u H3 s3 p3 => ?_⟩
  rw [rp_str p3]
  obtain ⟨j, hj, hmin⟩ := first_at hm
  refine ⟨a, _, .str x, j, .str x, rfl, rfl, SqL.of (s3 _ _ h1), rfl, flat_all xs, by rw [List.getElem?_map, hj] <;> rfl, ?_, fun m z hm hz => ?_, q _ H3 (s2.trans s3) ⟨j, rfl⟩⟩
  · show (x == x) = true
    simp
  · rw [List.getElem?_map] at hz
    cases hq : xs[m]? with
    | none => rw [hq] at hz; cases hz
    | some y =>
      rw [hq] at hz
      cases hz
      show (y == x) = false
      have : y ≠ x := fun e => hmin m hm (by rw [hq, e])
      simpa using this
end
/-- a list at W that is mutated -/
theorem ls_xl {F : Addr} {H H' : Hp} {xs : List V} {ds : List PyData} {v : V} (hF : H F = some (.lst xs)) (n : v ≠ .ref F) (s : SmX F H H') (h : Ls ds v H) : Ls ds v H' := by
  obtain ⟨p, ys, e, h1, h2⟩ := h
  have n' : p ≠ F := fun z => n (by rw [e, z])
  exact ⟨p, ys, e, s p _ n' h1, h2.up (s.tk fun xs' z => by rw [hF] at z; cases z)⟩
section
variable {P : Program} {w : World} {K : PySem.W.Frag} {mg : Str → Option Value} {base : Heap} {C : Addr}
abbrev sRingIn : Stmt := top 43
theorem scRingIn : FnScope ["links", "left", "walk", "one"] ["links", "left"] (defScope sRingIn) := ⟨rfl, rfl, rfl, by decide +kernel, rfl, by decide +kernel, by decide +kernel⟩
def spRingIn : Sp := fun vs H Q _ => ∃ (v1 v2 : V) (R : List Str) (f : Str → List Str) (lk : List (Str × PyData)) (Lf : List Str), vs = [v1, v2] ∧ LinksOk R f lk ∧ Dk lk v1 H ∧ Ls (Lf.map PyData.str) v2 H ∧ Lf.length ≤ 100 ∧ Lf ≠ [] ∧ (∀ x ∈ Lf, x ∈ R) ∧ (∀ x ∈ Lf, ∃ y ∈ f x, y ∈ Lf) ∧ ∀ v H' rg, Same H H' → Dd (tupS rg) v H' → (∀ x ∈ rg, x ∈ R) → rg.length ≤ 200 → Q v H'
theorem cal_ring_in (D : Std K mg "ring_in" sRingIn) (T : Gc mg) : Cal P w K mg base "ring_in" ["links", "left"] 1 spRingIn := by
  refine D.cal scRingIn (fun vs H Q E h => ?_) (fun _ _ _ _ _ _ us hl => match us, hl with | [_, _], _ => rfl) (fun f cdv A outer s H vs Q E hr h => ?_)
  · obtain ⟨v1, v2, R, f, lk, Lf, rfl, _⟩ := h
    rfl
  · obtain ⟨v1, v2, R, f, lk, Lf, rfl, ok, h1, h2, hz, hne, hR, hst, k⟩ := h
    have nd := scRingIn.nd
    have hu := hu_of hr
    refine ⟨_, (pss_cons (ps_set (i := 2) nd rfl (Or.inl rfl) (pe_lst (pa_cons (pe_ix (k_ixL (K := K)) (pv 1) pe_int (fun _ _ => rfl)) pa_nil)))
 (pss_cons (ps_while PassesOwn.never (pt_cmpR (k_notIn (K := K)) (pe_ix (k_ixL (K := K)) (pv 2) (pe_un un_neg pe_int) (fun _ _ => rfl)) (pe_slice (k_slL (K := K)) (pv 2) po_none (po_some (pe_un un_neg pe_int))) rfl) (pss_one (ps_expr (k_append (K := K) (pv 2) (pe_ix (k_ixL (K := K)) (pe_lc (own := [("one", 3)]) rfl nd (k_piT (K := K) (pe_dget hu (pv 0) (pe_ix (k_ixL (K := K)) (pv 2) (pe_un un_neg pe_int) (fun _ _ => rfl)) (fun _ _ => rfl))) (blkOk_by (by kernel_rfl)) (fun _ _ _ _ _ => (pg_name (i := 3) nd rfl (Or.inl rfl))) (fun _ _ _ _ _ => (pts_one (pt_cmpR (k_in (K := K)) (pv 3) (pv 1) rfl))) (fun _ _ _ _ _ => (pv 3))) pe_int (fun _ _ => rfl))))))
 (pss_one (ps_ret (pe_callTy (k_tup (K := K)) (by rfl) T.b.tuple (by decide +kernel) (pa_cons (pe_slice (k_slL (K := K)) (pv 2) (po_some (k_indexM (K := K) (pv 2) (pe_ix (k_ixL (K := K)) (pv 2) (pe_un un_neg pe_int) (fun _ _ => rfl)))) (po_some (pe_un un_neg pe_int))) pa_nil)))))), ?_⟩
    obtain ⟨x0, Lr, rfl⟩ := List.exists_cons_of_ne_nil hne
    -- walk = [left[0]]
    refine ev_ixL (j := 0) (ev_var rfl h2 (stb_l _)) ev_int rfl rfl H (Same.refl _) _ fun v0 H0 s0 p0 => ?_
    refine ⟨by show 1 ≤ sizeLine; decide, fun F hF => ?_⟩
    rw [rp_str p0]
    have sF : Same H0 (upd H0 F (.lst [.str x0])) := same_new hF
    have nF : ∀ xs, H0 F ≠ some (.tup xs) := fun xs z => by rw [hF] at z; cases z
    have up : ∀ {H'}, SmX F H0 H' → Dk lk v1 H' ∧ Ls ((x0 :: Lr).map PyData.str) v2 H' := fun {H'} x => by
      have s' := x.same (Same.refl _) hF
      exact ⟨stb_dk _ _ _ _ (s0.trans s') h1, stb_l _ _ _ _ (s0.trans s') h2⟩
    refine nx_of ?_
    refine s_while (W := fun m σ' H' => ∃ ws a, σ' = [some v1, some v2, some (.ref F), a] ∧ SmX F H0 H' ∧ H' F = some (.lst (ws.map V.str)) ∧ ws ≠ [] ∧ (∀ x ∈ ws, x ∈ x0 :: Lr) ∧ ws.dropLast.Nodup ∧ m + ws.length = (x0 :: Lr).length + 2) ((x0 :: Lr).length + 1)
      ⟨[x0], _, rfl, .of sF, upd_same, by simp, fun x hx => by rw [List.mem_singleton.mp hx]; exact List.mem_cons_self, by simp, by simp⟩ ?_
    rintro m σ' H' ⟨ws, a, rfl, x1, hw, wn, wm, wd, hm⟩
    have hlast : ws.getLast? = some (ws.getLast wn) := List.getLast?_eq_some_getLast wn
    have hwl : ∀ {H''}, Same H' H'' → Ls (ws.map PyData.str) (.ref F) H'' := fun {H''} s => ⟨F, _, rfl, s _ _ hw, rp_tupS_all.mpr rfl⟩
    have dl : ws.dropLast.length ≤ (x0 :: Lr).length := nodup_le wd fun x hx => wm x (List.dropLast_subset _ hx)
    have evlast : ∀ {H'' : Hp} {σ2 : L2.St}, σ2[2]? = some (some (.ref F)) → Same H' H'' → Ev (tOp (rIxL K) (tVar 2) (tUn (rU fun i => .int (-i)) (tC (.int 1)))) σ2 H'' (Dd (.str (ws.getLast wn))) := fun {H'' σ2} e s =>
      ev_lastL (ev_var e (hwl s) (stb_l _)) (ev_neg ev_int) (by rw [List.getLast?_map, hlast] <;> rfl)
    refine ⟨!decide (ws.getLast wn ∈ ws.dropLast), et_test (ev_notInL (xs := ws.dropLast) (evlast rfl (Same.refl _)) ?_), fun e H1 s1 => ?_, fun e H1 s1 => ?_⟩
    · have ec : cutD (ws.map PyData.str) none (some (-1)) = ws.dropLast.map PyData.str := by rw [cutD_last, List.map_dropLast]
      rw [← ec]
      exact ev_slL (ev_var rfl (hwl (Same.refl _)) (stb_l _)) eo_none (eo_some (ev_neg ev_int))
    · have hni : ws.getLast wn ∉ ws.dropLast := by simpa using e
      obtain ⟨u1, u2⟩ := up (x1.trans (.of s1))
      have hlm : ws.getLast wn ∈ x0 :: Lr := wm _ (List.getLast_mem wn)
      obtain ⟨y, hy, hyL⟩ := hst _ hlm
      have hwnd : ws.Nodup := by
        have e1 := List.dropLast_concat_getLast wn
        rw [← e1]
        refine List.nodup_append.mpr ⟨wd, by simp, fun a ha b hb z => ?_⟩
        rw [List.mem_singleton.mp hb] at z
        rw [z] at ha
        exact hni ha
      have hwl2 : ws.length ≤ (x0 :: Lr).length := nodup_le hwnd wm
      -- the first link that is left
      obtain ⟨z, zs, hzs⟩ : ∃ z zs, (f (ws.getLast wn)).filter (fun y => decide (y ∈ x0 :: Lr)) = z :: zs := by
        cases hq : (f (ws.getLast wn)).filter (fun y => decide (y ∈ x0 :: Lr)) with
        | nil =>
          have : y ∈ ([] : List Str) := hq ▸ List.mem_filter.mpr ⟨hy, decide_eq_true hyL⟩
          cases this
        | cons z zs => exact ⟨z, zs, rfl⟩
      have hzL : z ∈ x0 :: Lr := by
        have : z ∈ (f (ws.getLast wn)).filter (fun y => decide (y ∈ x0 :: Lr)) := by rw [hzs]; exact List.mem_cons_self
        simpa using (List.mem_filter.mp this).2
      have hlR : ws.getLast wn ∈ R := hR _ hlm
      have evz : Ev (tOp (rIxL K) (tLc (iTup K (tDGet (tVar 0) (tOp (rIxL K) (tVar 2) (tUn (rU fun i => .int (-i)) (tC (.int 1)))))) (gName 3) (tTest (tOp (rIn K false) (tVar 3) (tVar 1))) (tVar 3) [3]) (tC (.int 0))) [some v1, some v2, some (.ref F), a] H1 (Dd (.str z)) := by
        refine ev_ixL (j := 0) (ds := (z :: zs).map PyData.str) ?_ ev_int rfl rfl
        rw [← hzs]
        exact ev_lcTS (xs := f (ws.getLast wn)) (fun y => decide (y ∈ x0 :: Lr)) PyData.str (ev_dgetK (x := ws.getLast wn) (ev_var rfl u1 (stb_dk _)) (evlast rfl s1) (ok.get _ hlR)) (by have := ok.len _ hlR; omega) (fun _ => rfl) fun y hy H3 s3 => ⟨et_test (ev_inL (ev_varS rfl) (ev_var rfl (stb_l _ _ _ _ s3 u2) (stb_l _))), fun _ => ev_varS rfl⟩
      refine ⟨.ref F, rfl, .inl ⟨rfl, _, SqL.of (s1 _ _ hw)⟩, ?_⟩
      refine evz H1 (Same.refl _) _ fun vz H2 s2 p2 => ?_
      refine ⟨F, _, vz, rfl, rfl, s2 _ _ (s1 _ _ hw), by rw [List.length_map]; exact Nat.lt_of_le_of_lt (Nat.le_trans hwl2 hz) (by decide), ?_⟩
      refine ⟨m - 1, ?_, ws ++ [z], _, rfl, ((x1.trans (.of s1)).trans (.of s2)).upd, ?_, by simp, fun x hx => ?_, ?_, ?_⟩
      · omega
      · rw [rp_str p2, upd_same, List.map_append] <;> rfl
      · rcases List.mem_append.mp hx with hx | hx
        · exact wm x hx
        · rw [List.mem_singleton.mp hx]
          exact hzL
      · rw [List.dropLast_concat]
        exact hwnd
      · rw [List.length_append, List.length_singleton]
        omega
    · have hin : ws.getLast wn ∈ ws.dropLast := by simpa using e
      obtain ⟨u1, u2⟩ := up (x1.trans (.of s1))
      refine nx_of ?_
      -- the index, then the slice
      have hx : Ev (tBM K "list" (rIndex K) (tVar 2) (tCons (tOp (rIxL K) (tVar 2) (tUn (rU fun i => .int (-i)) (tC (.int 1)))) tNil)) [some v1, some v2, some (.ref F), a] H1 (fun v _ => ∃ j : Nat, v = .int j) := ev_index (ev_var rfl (hwl s1) (stb_l _)) (evlast rfl s1) (List.dropLast_subset _ hin)
      have hsl : Ev (tSl (rSlL K) (tVar 2) (tPart (tBM K "list" (rIndex K) (tVar 2) (tCons (tOp (rIxL K) (tVar 2) (tUn (rU fun i => .int (-i)) (tC (.int 1)))) tNil))) (tPart (tUn (rU fun i => .int (-i)) (tC (.int 1))))) [some v1, some v2, some (.ref F), a] H1 (fun v H' => ∃ rg : List Str, Ls (rg.map PyData.str) v H' ∧ (∀ x ∈ rg, x ∈ R) ∧ rg.length ≤ 200) := fun Ha sa Q' q' => by
        refine ⟨.ref F, rfl, hx Ha sa _ fun vj Hb sb ⟨j, ej⟩ => ⟨(j : Int), ej, ?_⟩⟩
        refine (eo_some (ev_neg (ev_int (i := 1)))) Hb (Same.refl _) _ fun Hc sc => ?_
        have hFc := sc _ _ (sb _ _ (sa _ _ (s1 _ _ hw)))
        refine ⟨F, _, rfl, SqL.of hFc, fun p hp => q' _ _ ((sb.trans sc).trans (same_new hp)) ?_⟩
        have rc : RpAll (upd Hc p (.lst (cutV (ws.map V.str) (some (j : Int)) (some (-1))))) (cutV (ws.map V.str) (some (j : Int)) (some (-1))) (cutD (ws.map PyData.str) (some (j : Int)) (some (-1))) := rp_cut (rp_tupS_all.mpr rfl) _ _
        obtain ⟨rg, er, hrg⟩ := strs_of (R := R) (ds := cutD (ws.map PyData.str) (some (j : Int)) (some (-1))) fun d hd => by
          obtain ⟨x, hx', rfl⟩ := List.mem_map.mp (cutD_mem hd)
          exact List.mem_map.mpr ⟨x, hR x (wm x hx'), rfl⟩
        have hlen := cutD_len (ws.map PyData.str) (some (j : Int)) (some (-1))
        rw [er, List.length_map, List.length_map] at hlen
        rw [er] at rc
        refine ⟨rg, ⟨p, _, rfl, upd_same, rc⟩, hrg, ?_⟩
        have : ws.length = ws.dropLast.length + 1 := by
          rw [List.length_dropLast]
          have := List.length_pos_iff.mpr wn
          omega
        omega
      have hret : Ev (tCB (rTupO K) (tCons (tSl (rSlL K) (tVar 2) (tPart (tBM K "list" (rIndex K) (tVar 2) (tCons (tOp (rIxL K) (tVar 2) (tUn (rU fun i => .int (-i)) (tC (.int 1)))) tNil))) (tPart (tUn (rU fun i => .int (-i)) (tC (.int 1))))) tNil)) [some v1, some v2, some (.ref F), a] H1 (fun v H' => ∃ rg : List Str, Dd (tupS rg) v H' ∧ (∀ x ∈ rg, x ∈ R) ∧ rg.length ≤ 200) := fun Ha sa Q' q' => by
        refine hsl Ha sa _ fun v Hb sb ⟨rg, l1, l2, l3⟩ => ?_
        obtain ⟨p, xs, rfl, e1, e2⟩ := l1
        exact ⟨p, xs, rfl, .inl ⟨SqL.of e1, fun l hl => q' _ _ (sb.trans (same_new hl)) ⟨rg, .tup upd_same (e2.sm (same_new hl)), l2, l3⟩⟩⟩
      refine s_ret hret ?_
      exact fun v H2 s2 ⟨rg, p1, p2, p3⟩ => k v H2 rg ((s0.trans ((x1.trans (.of s1)).same (Same.refl _) hF)).trans s2) p1 p2 p3
end
end Qt
/-! Qp: ring_for, turns, loss_for, loss. -/
namespace Qt
open PySem PySem.Spec PyProof.Rows L2
/-- the links fall -/
def Ranked (R : List Str) (f : Str → List Str) : Prop := ∃ rk : Di, ∀ x ∈ R, ∃ i, al rk x = some i ∧ ∀ y ∈ f x, ∃ j, al rk y = some j ∧ j < i
theorem RkEnd.ranked {R : List Str} {f : Str → List Str} {rk : Di} (h : RkEnd R f rk []) : Ranked R f := ⟨rk, fun x hx => by
  rcases h.cov x hx with hc | hc
  · obtain ⟨i, hi⟩ := Option.isSome_iff_exists.mp hc
    exact ⟨i, hi, h.ord x i hi⟩
  · cases hc⟩
/-- None, and then p; else an object -/
def NonOr (p : Prop) (A : VP) : VP := fun v H => (v = .non ∧ p) ∨ A v H
theorem cutT_mem {xs : List Str} {lo hi : Option Int} : ∃ ys : List Str, cutD (xs.map PyData.str) lo hi = ys.map PyData.str ∧ (∀ y ∈ ys, y ∈ xs) ∧ ys.length ≤ xs.length := by
  obtain ⟨ys, e, h⟩ := strs_of (R := xs) (ds := cutD (xs.map PyData.str) lo hi) fun d hd => cutD_mem hd
  refine ⟨ys, e, h, ?_⟩
  have := cutD_len (xs.map PyData.str) lo hi
  rw [e, List.length_map, List.length_map] at this
  exact this
section
variable {P : Program} {w : World} {K : PySem.W.Frag} {mg : Str → Option Value} {base : Heap} {C : Addr}
abbrev sRingFor : Stmt := top 44
theorem scRingFor : FnScope ["routers", "tables", "others", "d", "links", "left", "ring", "behind", "learnt", "router", "other"] ["routers", "tables", "others", "d"] (defScope sRingFor) := ⟨rfl, rfl, rfl, by decide +kernel, rfl, by decide +kernel, by decide +kernel⟩
def Pair2 : VP := fun v H => ∃ a b : List Str, Rp H v (.tuple [tupS a, tupS b])
def Pair22 : VP := fun v H => ∃ a b c, Rp H v (.tuple [a, b, c])
def spRingFor : Sp := fun vs H Q _ => ∃ (v1 v2 v3 : V) (d : Str) (R : List Str) (t o : Str → Str → List Str), vs = [v1, v2, v3, .str d] ∧ Rp H v1 (tupS R) ∧ R.length ≤ 10 ∧ (∀ x ∈ R, PyData.strOk x = true) ∧ d ∈ R ∧ Tb R t v2 H ∧ Tb R o v3 H ∧ ∀ v H', Same H H' → NonOr (Ranked R (lkF R t o d)) Pair2 v H' → Q v H'
theorem stb_ex (p : V → Prop) : Stb (fun v _ => p v) := fun _ _ _ _ h => h
theorem cal_ring_for (D : Std K mg "ring_for" sRingFor) (T : Gc mg) (Clinks_towards : Cal P w K mg base "links_towards" ["routers", "tables", "others", "d"] 1 spLinksTowards) (Cranked : Cal P w K mg base "ranked" ["links"] 1 spRanked)
    (Cring_in : Cal P w K mg base "ring_in" ["links", "left"] 1 spRingIn) : Cal P w K mg base "ring_for" ["routers", "tables", "others", "d"] 2 spRingFor := by
  refine D.cal scRingFor (fun vs H Q E h => ?_) (fun _ _ _ _ _ _ us hl => match us, hl with | [_, _, _, _], _ => rfl) (fun f cdv A outer s H vs Q E hr h => ?_)
  · obtain ⟨v1, v2, v3, d, R, t, o, rfl, _⟩ := h
    rfl
  · obtain ⟨v1, v2, v3, d, R, t, o, rfl, h1, h8, so, hd, h2, h3, k⟩ := h
    have nd := scRingFor.nd
    have hu := hu_of hr
    refine ⟨_, (pss_cons (ps_set (i := 4) nd rfl (Or.inl rfl) (pe_cal Clinks_towards (hr.mono (by decide)) (pa_cons (pv 0) (pa_cons (pv 1) (pa_cons (pv 2) (pa_cons (pv 3) pa_nil))))))
 (pss_cons (ps_set (i := 5) nd rfl (Or.inl rfl) (pe_ix (k_ixT (K := K)) (pe_cal Cranked (hr.mono (by decide)) (pa_cons (pv 4) pa_nil)) pe_int (fun _ _ => rfl)))
 (pss_cons (ps_if (pt_cmpR (k_eqD (K := K) hr.units) (pv 5) (pe_lst pa_nil) (nomark _)) (pss_one (ps_ret pe_non)) pss_nil)
 (pss_cons (ps_set (i := 6) nd rfl (Or.inl rfl) (pe_cal Cring_in (hr.mono (by decide)) (pa_cons (pv 4) (pa_cons (pv 5) pa_nil))))
 (pss_cons (ps_set (i := 7) nd rfl (Or.inl rfl) (pe_op (k_catA (K := K)) (pe_slice (k_slT (K := K)) (pv 6) (po_some pe_int) po_none) (pe_slice (k_slT (K := K)) (pv 6) po_none (po_some pe_int))))
 (pss_cons (ps_set (i := 8) nd rfl (Or.inr rfl) (pe_lc (own := [("router", 9), ("other", 10)]) rfl nd (k_zip (K := K) (by rfl) T.b.zip (pa_cons (pv 6) (pa_cons (pv 7) pa_nil))) (blkOk_by (by kernel_rfl)) (fun _ _ _ _ _ => (k_tgT (K := K) (n := 2) rfl (pgs_cons (pg_name (i := 9) nd rfl (Or.inl rfl)) (pgs_cons (pg_name (i := 10) nd rfl (Or.inl rfl)) pgs_nil)))) (fun _ _ _ _ _ => (pts_one (pt_cmpR (k_notIn (K := K)) (pv 10) (pe_dget hu (pv 1) (pe_tup (pa_cons (pv 9) (pa_cons (pv 3) pa_nil))) (fun _ _ => rfl)) rfl))) (fun _ _ _ _ _ => (pv 9))))
 (pss_one (ps_ret (pe_tup (pa_cons (pv 6) (pa_cons (pe_callTy (k_tup (K := K)) (by rfl) T.b.tuple (by decide +kernel) (pa_cons (pe_lc (own := [("router", 9)]) rfl nd (k_piT (K := K) (pv 0)) (blkOk_by (by kernel_rfl)) (fun _ _ _ _ _ => (pg_name (i := 9) nd rfl (Or.inl rfl))) (fun _ _ _ _ _ => (pts_one (pt_cmpR (k_in (K := K)) (pv 9) (pv 8) rfl))) (fun _ _ _ _ _ => (pv 9))) pa_nil)) pa_nil))))))))))), ?_⟩
    -- links
    refine s_set (P := fun v H' => ∃ a lk, v = .ref a ∧ LinksOk R (lkF R t o d) lk ∧ DK H' a lk) (ev_call (ea_d (ev_varD rfl h1) (ea_cons (ev_var rfl h2 (stb_tb _ _)) (stb_tb _ _) (ea_cons (ev_var rfl h3 (stb_tb _ _)) (stb_tb _ _) (ea_d (ev_varS rfl) ea_nil)))) ?_) fun vl H1 s1 pl => ?_
    · rintro vs H1 s1 ⟨v, r, rfl, p1, u, r2, rfl, p2, w', r3, rfl, p3, z, r4, rfl, p4, rfl⟩ Q' q'
      rw [rp_str p4]
      exact ⟨v, u, w', d, R, t, o, rfl, p1, h8, hd, p2, p3, fun a lk H2 s2 lo dk => q' _ H2 s2 ⟨a, lk, rfl, lo, dk⟩⟩
    obtain ⟨L, lk, rfl, lo, dk⟩ := pl
    refine nx_of ?_
    -- left
    refine s_set (P := fun v H' => ∃ Lf rk, Ls (Lf.map PyData.str) v H' ∧ RkEnd R (lkF R t o d) rk Lf) (ev_op (A := RankR R (lkF R t o d)) (B := Dd (.int 1)) (ev_call (ea_cons (P := Ex (.ref L)) (ev_varX rfl) (stb_x _) ea_nil) ?_) (stb_rank _ _) ev_int ?_) fun vf H2 s2 pf => ?_
    · rintro vs H2 s2 ⟨v, r, rfl, rfl, rfl⟩ Q' q'
      exact ⟨L, R, _, lk, rfl, lo, so, dk.sm s2, q'⟩
    · rintro x y H2 s2 ⟨tt, F, vl, Lf, rk, rfl, e1, e2, e3⟩ p2 Q' q'
      exact ⟨tt, _, 1, vl, rfl, rp_int p2, SqT.of e1, rfl, q' vl H2 (Same.refl _) ⟨Lf, rk, e2, e3⟩⟩
    obtain ⟨Lf, rk, ll, re⟩ := pf
    have sLf : ∀ x ∈ Lf, PyData.strOk x = true := fun x hx => so x (re.lsub x hx)
    refine nx_of ?_
    refine s_if (b := decide (Lf = [])) (et_test (ev_is (ev_eqD (A := Ls (Lf.map PyData.str)) (B := Ls (([] : List Str).map PyData.str)) (ev_var rfl ll (stb_l _)) (stb_l _) (ev_lst (ds := []) ea_nil (by simp)) (fun _ _ p => dp_ls p) (fun _ _ p => dp_ls p) (shaped_lstS sLf) (shaped_lstS (by simp))) (by rw [eqv_lstS]))) (fun e H3 s3 => ?_) (fun e H3 s3 => ?_)
    · have e' := of_decide_eq_true e
      subst e'
      refine s_ret (P := Ex .non) (ev_c fun _ => rfl) ?_
      exact fun v H4 s4 p => k v H4 (((s1.trans s2).trans s3).trans s4) (.inl ⟨p, re.ranked⟩)
    · have ne := of_decide_eq_false e
      have lfb : Lf.length ≤ 100 := by have := re.len; omega
      refine nx_of ?_
      have dk3 := (dk.sm s2).sm s3
      have ll3 := stb_l _ _ _ _ s3 ll
      have s03 := (s1.trans s2).trans s3
      -- ring
      refine s_set (P := fun v H' => ∃ rg : List Str, Dd (tupS rg) v H' ∧ (∀ x ∈ rg, x ∈ R) ∧ rg.length ≤ 200) (ev_call (ea_cons (ev_var rfl dk3.dk (stb_dk _)) (stb_dk _) (ea_l (ev_var rfl ll3 (stb_l _)) ea_nil)) ?_) fun vr H4 s4 pr => ?_
      · rintro vs H4 s4 ⟨v, r, rfl, p1, u, r2, rfl, p2, rfl⟩ Q' q'
        exact ⟨v, u, R, _, lk, Lf, rfl, lo, p1, p2, lfb, ne, re.lsub, re.stuck, fun v H5 rg s5 q1 q2 q3 => q' v H5 s5 ⟨rg, q1, q2, q3⟩⟩
      obtain ⟨rg, pr, rgR, rgl⟩ := pr
      refine nx_of ?_
      obtain ⟨y1, c1, m1, z1⟩ := cutT_mem (xs := rg) (lo := some 1) (hi := none)
      obtain ⟨y2, c2, m2, z2⟩ := cutT_mem (xs := rg) (lo := none) (hi := some 1)
      refine s_set (P := Dd (tupS (y1 ++ y2))) (ev_is (ev_catT (ds := y1.map PyData.str) (es := y2.map PyData.str) (ev_is (ev_slT (ev_varD rfl pr) (eo_some ev_int) eo_none) (by rw [c1])) (ev_is (ev_slT (ev_varD rfl pr) eo_none (eo_some ev_int)) (by rw [c2])) (by rw [List.length_map, List.length_map]; omega)) (by simp only [tupS, List.map_append])) fun vb H5 s5 pb => ?_
      refine nx_of ?_
      have pr5 := Rp.sm pr s5
      have t5 := stb_tb _ _ _ _ _ ((s03.trans s4).trans s5) h2
      have gtest : ∀ (p : PyData × PyData), Bool := fun p => match p with
        | (.str a, .str b) => !decide (b ∈ t a d)
        | _ => false
      -- learnt
      refine s_set (P := fun v H' => ∃ ls : List Str, Ls (ls.map PyData.str) v H') ((ev_lcZ (ds := rg.map PyData.str) (es := (y1 ++ y2).map PyData.str) (fun p => match p with
        | (.str a, .str b) => !decide (b ∈ t a d)
        | _ => false) (fun p => p.1) (ea_d (ev_varD rfl pr5) (ea_d (ev_varD rfl pb) ea_nil)) (.inl ⟨rfl, rfl⟩) (by rw [List.length_map]; omega) (fun _ _ => rfl) fun e1 e2 hm u1 u2 H6 s6 r1 r2 => ?_).imp fun v H6 s6 p => ?_) fun vt H6 s6 pt => ?_
      · rw [List.zip_map] at hm
        obtain ⟨⟨a, b⟩, hab, q⟩ := List.mem_map.mp hm
        cases q
        have ha := rgR a (List.of_mem_zip hab).1
        exact ⟨et_test (ev_notInT (ev_varD rfl r2) (ev_tb (ev_var rfl (stb_tb _ _ _ _ _ s6 t5) (stb_tb _ _)) (ev_pair (ev_varD rfl r1) (ev_varS rfl)) ha hd)), fun _ => ev_varD rfl r1⟩
      · obtain ⟨ys, e, _⟩ := strs_of (R := rg) (ds := ((((rg.map PyData.str).zip ((y1 ++ y2).map PyData.str)).filter fun p => match p with
          | (.str a, .str b) => !decide (b ∈ t a d)
          | _ => false).map fun p => p.1)) fun x hx => by
            obtain ⟨q, hq, rfl⟩ := List.mem_map.mp hx
            exact (List.of_mem_zip (List.mem_filter.mp hq).1).1
        rw [e] at p
        exact ⟨ys, p⟩
      obtain ⟨ls, pt⟩ := pt
      refine nx_of ?_
      have h1' := h1.sm (((s03.trans s4).trans s5).trans s6)
      refine s_ret (P := Dd (.tuple [tupS rg, tupS (R.filter fun x => decide (x ∈ ls))])) (ev_tup (ds := [tupS rg, tupS (R.filter fun x => decide (x ∈ ls))]) (ea_d (ev_varD rfl (Rp.sm pr5 s6)) (ea_d (ev_tupL (ev_lcTS (fun x => decide (x ∈ ls)) PyData.str (ev_varD rfl h1') (by omega) (fun _ => rfl) fun x hx H7 s7 => ⟨et_test (ev_inL (ev_varS rfl) (ev_var rfl (stb_l _ _ _ _ s7 pt) (stb_l _))), fun _ => ev_varS rfl⟩)) ea_nil)) (by simp)) ?_
      exact fun v H7 s7 p => k v H7 ((((s03.trans s4).trans s5).trans s6).trans s7) (.inr ⟨_, _, p⟩)
abbrev sTurns : Stmt := top 45
theorem scTurns : FnScope ["routers", "tables", "others", "d", "found"] ["routers", "tables", "others"] (defScope sTurns) := ⟨rfl, rfl, rfl, by decide +kernel, rfl, by decide +kernel, by decide +kernel⟩
def IsRef : VP := fun v _ => ∃ a, v = .ref a
def spTurns : Sp := fun vs H Q _ => ∃ (v1 v2 v3 : V) (R : List Str) (t o : Str → Str → List Str), vs = [v1, v2, v3] ∧ Rp H v1 (tupS R) ∧ R.length ≤ 10 ∧ (∀ x ∈ R, PyData.strOk x = true) ∧ Tb R t v2 H ∧ Tb R o v3 H ∧ ∀ v H', Same H H' → NonOr (∀ d ∈ R, Ranked R (lkF R t o d)) IsRef v H' → Q v H'
/-- (d, *found) of what is not None -/
theorem ev_dFound {σ : L2.St} {H : Hp} {i j : Nat} {d : Str} {v : V} {a b : PyData} (h1 : σ[i]? = some (some (.str d))) (h2 : σ[j]? = some (some v)) (h3 : Rp H v (.tuple [a, b])) : Ev (tTup (tCons (tVar i) (StX.tStar K (tVar j) tNil))) σ H IsRef :=
  (ev_tup (ds := [.str d, a, b]) (ea_d (ev_varS h1) (ea_starT (ds := [a, b]) (es := []) (ev_varD h2 h3) ea_nil)) (by simp)).imp fun v H' s p => by
    obtain ⟨q, xs, rfl, _⟩ := rp_tup p
    exact ⟨q, rfl⟩
theorem cal_turns (D : Std K mg "turns" sTurns) (T : Gc mg) (Cring_for : Cal P w K mg base "ring_for" ["routers", "tables", "others", "d"] 2 spRingFor) : Cal P w K mg base "turns" ["routers", "tables", "others"] 3 spTurns := by
  refine D.cal scTurns (fun vs H Q E h => ?_) (fun _ _ _ _ _ _ us hl => match us, hl with | [_, _, _], _ => rfl) (fun f cdv A outer s H vs Q E hr h => ?_)
  · obtain ⟨v1, v2, v3, R, t, o, rfl, _⟩ := h
    rfl
  · obtain ⟨v1, v2, v3, R, t, o, rfl, h1, h8, so, h2, h3, k⟩ := h
    have nd := scTurns.nd
    refine ⟨_, (pss_cons (ps_for PassesOwn.never rfl (k_piT (K := K) (pv 0)) (pg_name (i := 3) nd rfl (Or.inl rfl))
 (pss_cons (ps_set (i := 4) nd rfl (Or.inl rfl) (pe_cal Cring_for (hr.mono (by decide)) (pa_cons (pv 0) (pa_cons (pv 1) (pa_cons (pv 2) (pa_cons (pv 3) pa_nil))))))
 (pss_one (ps_if (pt_cmpR op_notN (pv 4) pe_non (nomark _)) (pss_one (ps_ret (pe_tup (pa_cons (pv 3) (k_star (K := K) (pv 4) pa_nil))))) pss_nil))))
 (pss_one (ps_ret pe_non))), ?_⟩
    refine s_forT (ev_varD rfl h1) (fun H1 i σ' H' => (∃ a b, σ' = [some v1, some v2, some v3, a, b]) ∧ Same H1 H' ∧ ∀ d ∈ R.take i, Ranked R (lkF R t o d)) (fun H1 s1 => ⟨⟨_, _, rfl⟩, Same.refl _, fun d hd => by simp at hd⟩) (fun H1 i σ' H' s1 q => tk_same q.2.1) ?_ ?_
    · rintro H1 i e v σ' H' s1 he ⟨⟨a, b, rfl⟩, sm, hrk⟩ rv
      rw [List.getElem?_map] at he
      cases hk : R[i]? with
      | none => rw [hk] at he; cases he
      | some d =>
        rw [hk] at he
        cases he
        rw [rp_str rv]
        have s' := s1.trans sm
        refine s_set (P := NonOr (Ranked R (lkF R t o d)) Pair2) (ev_call (ea_d (ev_varD rfl (h1.sm s')) (ea_cons (ev_var rfl (stb_tb _ _ _ _ _ s' h2) (stb_tb _ _)) (stb_tb _ _) (ea_cons (ev_var rfl (stb_tb _ _ _ _ _ s' h3) (stb_tb _ _)) (stb_tb _ _) (ea_d (ev_varS rfl) ea_nil)))) ?_) fun vf H2 s2 pf => ?_
        · rintro vs H2 s2 ⟨v, r, rfl, p1, u, r2, rfl, p2, w', r3, rfl, p3, z, r4, rfl, p4, rfl⟩ Q' q'
          rw [rp_str p4]
          exact ⟨v, u, w', d, R, t, o, rfl, p1, h8, so, List.mem_of_getElem? hk, p2, p3, q'⟩
        · refine nx_of ?_
          rcases pf with ⟨rfl, hrd⟩ | ⟨x, y, pf⟩
          · refine s_if (b := false) (et_test (ev_op (A := Ex .non) (B := Ex .non) (ev_varX rfl) (stb_x _) (ev_c fun _ => rfl) fun x y H3 s3 p1 p2 Q' q' => ⟨p2, q' _ H3 (Same.refl _) (by rw [p1]; exact .bl false)⟩)) (fun e => by cases e) fun _ H3 s3 => ?_
            refine (show (∃ a b, _ = [some v1, some v2, some v3, a, b]) ∧ Same H1 H3 ∧ ∀ d ∈ R.take (i + 1), Ranked R (lkF R t o d) from ⟨⟨_, _, rfl⟩, (sm.trans s2).trans s3, fun d' hd' => ?_⟩)
            rw [take_succ hk, List.mem_append] at hd'
            rcases hd' with hd' | hd'
            · exact hrk d' hd'
            · rw [List.mem_singleton.mp hd']
              exact hrd
          · obtain ⟨ap, xs, ev, _⟩ := rp_tup pf
            refine s_if (b := true) (et_test (ev_op (A := Ex vf) (B := Ex .non) (ev_varX rfl) (stb_x _) (ev_c fun _ => rfl) fun x y H3 s3 p1 p2 Q' q' => ⟨p2, q' _ H3 (Same.refl _) (by
              have : decide (x = V.non) = false := decide_eq_false (by rw [p1, ev]; exact fun z => by cases z)
              rw [this]
              exact .bl true)⟩)) (fun _ H3 s3 => ?_) (fun e => by cases e)
            refine s_ret (ev_dFound (i := 3) (j := 4) (d := d) rfl rfl (Rp.sm pf s3)) ?_
            exact fun v H4 s4 p => k v H4 (((s'.trans s2).trans s3).trans s4) (.inr p)
    · rintro H1 σ' H' s1 ⟨⟨a, b, rfl⟩, sm, hrk⟩
      rw [List.length_map, List.take_length] at hrk
      refine nx_of ?_
      refine s_ret (P := Ex .non) (ev_c fun _ => rfl) ?_
      exact fun v H2 s2 p => k v H2 ((s1.trans sm).trans s2) (.inl ⟨p, hrk⟩)
end
end Qt
/-! Qq: loss_for, loss. -/
namespace Qt
open PySem PySem.Spec PyProof.Rows L2
/-- no next router is lost -/
def NL (R : List Str) (f g : Str → Str → List Str) (d : Str) : Prop := ∀ x ∈ R, x ≠ d → ∀ y ∈ f x d, y ≠ d → g y d ≠ []
def NoLoss (R : List Str) (t o : Str → Str → List Str) (d : Str) : Prop := NL R t t d ∧ NL R t o d ∧ NL R o t d ∧ NL R o o d
/-- the pair ((a, False), (b, True)) -/
def TwoP (va vb : V) : VP := fun v H => ∃ p t1 t2, v = .ref p ∧ H p = some (.tup [.ref t1, .ref t2]) ∧ H t1 = some (.tup [va, .bl false]) ∧ H t2 = some (.tup [vb, .bl true])
section
variable {K : PySem.W.Frag} {σ : L2.St} {H : Hp} {tl : TE} {tb : TS} {D : Ends} {va vb : V}
theorem ev_twoP {i j : Nat} (h1 : σ[i]? = some (some va)) (h2 : σ[j]? = some (some vb)) : Ev (tTup (tCons (tTup (tCons (tVar i) (tCons (tC (.bl false)) tNil))) (tCons (tTup (tCons (tVar j) (tCons (tC (.bl true)) tNil))) tNil))) σ H (TwoP va vb) := fun H1 s Q q => by
  refine ⟨va, h1, by show 2 ≤ sizeLine; decide, fun t1 ht1 => ⟨vb, h2, by show 2 ≤ sizeLine; decide, fun t2 ht2 => ⟨by show 2 ≤ sizeLine; decide, fun p hp => ?_⟩⟩⟩
  have s1 := same_new (o := .tup [va, .bl false]) ht1
  have s2 := same_new (o := .tup [vb, .bl true]) ht2
  have s3 := same_new (o := .tup [.ref t1, .ref t2]) hp
  exact q _ _ ((s1.trans s2).trans s3) ⟨p, t1, t2, rfl, upd_same, s3 _ _ (s2 _ _ upd_same), s3 _ _ upd_same⟩
/-- over the pair, the word stays by Same -/
theorem s_forTwo {i j : Nat} (h : Ev tl σ H (TwoP va vb)) (Pv : Hp → Nat → L2.St → Hp → Prop) (h0 : ∀ H1, Same H H1 → Pv H1 0 σ H1) (hs : ∀ H1 k σ' H', Pv H1 k σ' H' → Same H1 H')
    (turn : ∀ H1 k v b σ' H', Same H H1 → (k = 0 ∧ v = va ∧ b = false ∨ k = 1 ∧ v = vb ∧ b = true) → Pv H1 k σ' H' → tb { D with nx := Pv H1 (k + 1), ct := Pv H1 (k + 1), bk := D.nx } ((σ'.set i (some v)).set j (some (.bl b))) H')
    (done : ∀ H1 σ' H', Same H H1 → Pv H1 2 σ' H' → D.nx σ' H') : tFor (iTup K tl) (gTup K 2 (gCons (gName i) (gCons (gName j) gNil))) tb D σ H := h H (Same.refl _) _ fun v H1 s1 ⟨p, t1, t2, e, e1, e2, e3⟩ => by
  subst e
  refine ⟨p, rfl, ⟨_, SqT.of e1⟩, for_it walk_tup (fun k σ' H' => Pv H1 k σ' H') (h0 H1 s1) (fun k σ' H' _ q => SqT.of (hs H1 k σ' H' q _ _ e1)) (fun k x σ' H2 H3 hk q y => ?_) (fun σ' H' q => done H1 σ' H' s1 q)⟩
  obtain ⟨rfl, hx⟩ := y
  have s2 := hs H1 k σ' H3 q
  have hk' : k < 2 := hk
  rcases (show k = 0 ∨ k = 1 by omega) with rfl | rfl
  · cases hx
    exact ⟨t1, _, rfl, SqT.of (s2 _ _ e2), rfl, _, _, rfl, _, _, rfl, rfl, turn H1 0 va false σ' H3 s1 (.inl ⟨rfl, rfl, rfl⟩) q⟩
  · cases hx
    exact ⟨t2, _, rfl, SqT.of (s2 _ _ e3), rfl, _, _, rfl, _, _, rfl, rfl, turn H1 1 vb true σ' H3 s1 (.inr ⟨rfl, rfl, rfl⟩) q⟩
/-- a list of at most one text -/
def LsB : VP := fun v H => ∃ ls : List Str, Ls (ls.map PyData.str) v H ∧ ls.length ≤ 1
theorem stb_lsB : Stb LsB := fun v H H' s ⟨ls, h, z⟩ => ⟨ls, stb_l _ _ _ _ s h, z⟩
theorem ev_catB {ta tb : TE} (ha : Ev ta σ H LsB) (hb : Ev tb σ H LsB) : Ev (tOp rCat ta tb) σ H (fun v H' => ∃ ls : List Str, Ls (ls.map PyData.str) v H') := ev_op ha stb_lsB hb fun u v H1 s ⟨l1, ⟨a, xs, e, h1, h2⟩, z1⟩ ⟨l2, ⟨b, ys, e', h1', h2'⟩, z2⟩ Q q => by
  have n1 := h2.length
  have n2 := h2'.length
  rw [List.length_map] at n1 n2
  refine ⟨a, b, xs, ys, e, e', h1, h1', ?_, fun p hp => q _ _ (same_new hp) ⟨l1 ++ l2, p, _, rfl, upd_same, ?_⟩⟩
  · exact Nat.le_trans (show xs.length + ys.length ≤ 2 by omega) (by decide)
  · rw [List.map_append]
    exact (h2.append h2').sm (same_new hp)
/-- [x] * int(b) -/
theorem ev_repB {i j : Nat} {x : Str} {b : Bool} (h1 : σ[i]? = some (some (.str x))) (h2 : σ[j]? = some (some (.bl b))) :
    Ev (tOp rRep (tLst (tCons (tVar i) tNil)) (tCB (fun xs H Q => (∃ i, xs = [V.int i] ∧ Q (.int i) H) ∨ ∃ k, xs = [.bl k] ∧ Q (.int (if k then 1 else 0)) H) (tCons (tVar j) tNil))) σ H LsB := fun H1 s Q q => by
  refine ⟨.str x, h1, by show 1 ≤ sizeLine; decide, fun p hp => ⟨.bl b, h2, .inr ⟨b, rfl, p, _, _, rfl, rfl, upd_same, ?_, ?_, ?_, fun p2 hp2 => ?_⟩⟩⟩
  · cases b <;> decide
  · cases b <;> decide
  · cases b
    · show 1 * 0 ≤ sizeLine; decide
    · show 1 * 1 ≤ sizeLine; decide
  · refine q _ _ ((same_new hp).trans (same_new hp2)) ?_
    cases b
    · exact ⟨[], ⟨p2, _, rfl, upd_same, .nil⟩, by simp⟩
    · exact ⟨[x], ⟨p2, _, rfl, upd_same, .cons (.str x) .nil⟩, by simp⟩
end
section
variable {P : Program} {w : World} {K : PySem.W.Frag} {mg : Str → Option Value} {base : Heap} {C : Addr}
abbrev sLossFor : Stmt := top 46
theorem scLossFor : FnScope ["routers", "tables", "others", "d", "first", "is_learnt", "second", "is_known", "router", "other", "one", "learnt"] ["routers", "tables", "others", "d"] (defScope sLossFor) := ⟨rfl, rfl, rfl, by decide +kernel, rfl, by decide +kernel, by decide +kernel⟩
def spLossFor : Sp := fun vs H Q _ => ∃ (v1 v2 v3 : V) (d : Str) (R : List Str) (t o : Str → Str → List Str), vs = [v1, v2, v3, .str d] ∧ Rp H v1 (tupS R) ∧ R.length ≤ 10 ∧ (∀ x ∈ R, PyData.strOk x = true) ∧ d ∈ R ∧ Tb R t v2 H ∧ Tb R o v3 H ∧ ∀ v H', Same H H' → NonOr (NoLoss R t o d) Pair2 v H' → Q v H'
def Sel {α : Type} (t o : α) (i : Nat) (f : α) : Prop := (0 < i ∧ f = t) ∨ (1 < i ∧ f = o)
theorem tb_sub {R : List Str} {f : Str → Str → List Str} {v : V} {H : Hp} (h : Tb R f v H) {a d : Str} (ha : a ∈ R) (hd : d ∈ R) : (∀ x ∈ f a d, x ∈ R) ∧ (f a d).length ≤ 10 := by
  obtain ⟨tab, ok, _⟩ := tb_dt h
  exact ⟨ok.sub a ha d hd, ok.len a ha d hd⟩
theorem cal_loss_for (D : Std K mg "loss_for" sLossFor) (T : Gc mg) : Cal P w K mg base "loss_for" ["routers", "tables", "others", "d"] 1 spLossFor := by
  refine D.cal scLossFor (fun vs H Q E h => ?_) (fun _ _ _ _ _ _ us hl => match us, hl with | [_, _, _, _], _ => rfl) (fun f cdv A outer s H vs Q E hr h => ?_)
  · obtain ⟨v1, v2, v3, d, R, t, o, rfl, _⟩ := h
    rfl
  · obtain ⟨v1, v2, v3, d, R, t, o, rfl, h1, h8, so, hd, h2, h3, k⟩ := h
    have nd := scLossFor.nd
    have hu := hu_of hr
    refine ⟨_, (pss_cons (ps_for PassesOwn.never rfl (k_piT (K := K) (pe_tup (pa_cons (pe_tup (pa_cons (pv 1) (pa_cons pe_bl pa_nil))) (pa_cons (pe_tup (pa_cons (pv 2) (pa_cons pe_bl pa_nil))) pa_nil)))) (k_tgT (K := K) (n := 2) rfl (pgs_cons (pg_name (i := 4) nd rfl (Or.inl rfl)) (pgs_cons (pg_name (i := 5) nd rfl (Or.inl rfl)) pgs_nil)))
 (pss_one (ps_for PassesOwn.never rfl (k_piT (K := K) (pe_tup (pa_cons (pe_tup (pa_cons (pv 1) (pa_cons pe_bl pa_nil))) (pa_cons (pe_tup (pa_cons (pv 2) (pa_cons pe_bl pa_nil))) pa_nil)))) (k_tgT (K := K) (n := 2) rfl (pgs_cons (pg_name (i := 6) nd rfl (Or.inl rfl)) (pgs_cons (pg_name (i := 7) nd rfl (Or.inl rfl)) pgs_nil)))
 (pss_one (ps_for PassesOwn.never rfl (k_piL (K := K) (pe_lc (own := [("one", 10)]) rfl nd (k_piT (K := K) (pv 0)) (blkOk_by (by kernel_rfl)) (fun _ _ _ _ _ => (pg_name (i := 10) nd rfl (Or.inl rfl))) (fun _ _ _ _ _ => (pts_one (pt_cmpR op_ne (pv 10) (pv 3) (nomark _)))) (fun _ _ _ _ _ => (pv 10)))) (pg_name (i := 8) nd rfl (Or.inl rfl))
 (pss_one (ps_for PassesOwn.never rfl (k_piT (K := K) (pe_dget hu (pv 4) (pe_tup (pa_cons (pv 8) (pa_cons (pv 3) pa_nil))) (fun _ _ => rfl))) (pg_name (i := 9) nd rfl (Or.inl rfl))
 (pss_one (ps_if (PW.pt (pw_and (pt_cmpR op_ne (pv 9) (pv 3) (nomark _)) (pw_and1 (pt_cmpR (k_eqD (K := K) hr.units) (pe_dget hu (pv 6) (pe_tup (pa_cons (pv 9) (pa_cons (pv 3) pa_nil))) (fun _ _ => rfl)) (pe_tup pa_nil) (nomark _))))) (pss_cons (ps_set (i := 11) nd rfl (Or.inr rfl) (pe_op op_cat (pe_op op_rep (pe_lst (pa_cons (pv 8) pa_nil)) (pe_callTy call_int1 (by rfl) T.b.int (by decide +kernel) (pa_cons (pv 5) pa_nil))) (pe_op op_rep (pe_lst (pa_cons (pv 9) pa_nil)) (pe_callTy call_int1 (by rfl) T.b.int (by decide +kernel) (pa_cons (pv 7) pa_nil)))))
 (pss_one (ps_ret (pe_tup (pa_cons (pe_tup (pa_cons (pv 8) (pa_cons (pv 9) pa_nil))) (pa_cons (pe_callTy (k_tup (K := K)) (by rfl) T.b.tuple (by decide +kernel) (pa_cons (pe_lc (own := [("one", 10)]) rfl nd (k_piT (K := K) (pv 0)) (blkOk_by (by kernel_rfl)) (fun _ _ _ _ _ => (pg_name (i := 10) nd rfl (Or.inl rfl))) (fun _ _ _ _ _ => (pts_one (pt_cmpR (k_in (K := K)) (pv 10) (pv 11) rfl))) (fun _ _ _ _ _ => (pv 10))) pa_nil)) pa_nil)))))) pss_nil)))))))))
 (pss_one (ps_ret pe_non))), ?_⟩
    refine s_forTwo (va := v2) (vb := v3) (ev_twoP rfl rfl) (fun H1 i σ' H' => (∃ a b c e f g x y, σ' = [some v1, some v2, some v3, some (.str d), a, b, c, e, f, g, x, y]) ∧ Same H1 H' ∧ ∀ f, Sel t o i f → NL R f t d ∧ NL R f o d)
      (fun H1 s1 => ⟨⟨_, _, _, _, _, _, _, _, rfl⟩, Same.refl _, fun f hf => by rcases hf with ⟨h, _⟩ | ⟨h, _⟩ <;> omega⟩) (fun H1 i σ' H' q => q.2.1) ?_ ?_
    · rintro H1 i vf bf σ' H' s1 hi ⟨⟨a, b, c, e, ff, gg, x, y, rfl⟩, sm, hnl⟩
      obtain ⟨f, hf, tf⟩ : ∃ f, (i = 0 ∧ f = t ∨ i = 1 ∧ f = o) ∧ ∀ {H'}, Same H H' → Tb R f vf H' := by
        rcases hi with ⟨h, rfl, _⟩ | ⟨h, rfl, _⟩
        · exact ⟨t, .inl ⟨h, rfl⟩, fun s => stb_tb _ _ _ _ _ s h2⟩
        · exact ⟨o, .inr ⟨h, rfl⟩, fun s => stb_tb _ _ _ _ _ s h3⟩
      have s' := s1.trans sm
      refine s_forTwo (va := v2) (vb := v3) (ev_twoP rfl rfl) (fun H2 j σ'' H'' => (∃ c e a' g x y, σ'' = [some v1, some v2, some v3, some (.str d), some vf, some (.bl bf), c, e, a', g, x, y]) ∧ Same H2 H'' ∧ ∀ g, Sel t o j g → NL R f g d)
        (fun H2 s2 => ⟨⟨_, _, _, _, _, _, rfl⟩, Same.refl _, fun g hg => by rcases hg with ⟨h, _⟩ | ⟨h, _⟩ <;> omega⟩) (fun H2 j σ'' H'' q => q.2.1) ?_ ?_
      · rintro H2 j vg bg σ'' H'' s2 hj ⟨⟨c, e, a', g', x, y, rfl⟩, sm2, hnl2⟩
        obtain ⟨g, hg, tg⟩ : ∃ g, (j = 0 ∧ g = t ∨ j = 1 ∧ g = o) ∧ ∀ {H'}, Same H H' → Tb R g vg H' := by
          rcases hj with ⟨h, rfl, _⟩ | ⟨h, rfl, _⟩
          · exact ⟨t, .inl ⟨h, rfl⟩, fun s => stb_tb _ _ _ _ _ s h2⟩
          · exact ⟨o, .inr ⟨h, rfl⟩, fun s => stb_tb _ _ _ _ _ s h3⟩
        have s'' := (s'.trans s2).trans sm2
        -- for router in [one for one in routers if one != d]
        refine s_forL (ds := (R.filter fun x => !decide (x = d)).map PyData.str) (ev_lcTS (fun x => !decide (x = d)) PyData.str (ev_varD rfl (h1.sm s'')) (by omega) (fun _ => rfl) fun x hx H3 s3 => ⟨et_test (ev_neS (ev_varS rfl) (ev_varS rfl)), fun _ => ev_varS rfl⟩)
          (fun H3 m σ3 H3' => (∃ a' g' x y, σ3 = [some v1, some v2, some v3, some (.str d), some vf, some (.bl bf), some vg, some (.bl bg), a', g', x, y]) ∧ Same H3 H3' ∧ ∀ x ∈ (R.filter fun x => !decide (x = d)).take m, ∀ y ∈ f x d, y ≠ d → g y d ≠ [])
          (fun H3 s3 => ⟨⟨_, _, _, _, rfl⟩, Same.refl _, fun x hx => by simp at hx⟩) (fun H3 m σ3 H3' s3 q => tk_same q.2.1) (fun H3 p xs m σ3 H3' hp _ s3 q => q.2.1 _ _ hp) ?_ ?_
        · rintro H3 m e v σ3 H3' s3 he ⟨⟨a', g', x, y, rfl⟩, sm3, hx3⟩ rv
          rw [List.getElem?_map] at he
          cases hk : (R.filter fun x => !decide (x = d))[m]? with
          | none => rw [hk] at he; cases he
          | some r =>
            rw [hk] at he
            cases he
            rw [rp_str rv]
            obtain ⟨hrR, hrd⟩ := List.mem_filter.mp (List.mem_of_getElem? hk)
            have sA := (s''.trans s3).trans sm3
            obtain ⟨fsub, flen⟩ := tb_sub (tf (Same.refl H)) hrR hd
            -- for other in first[router, d]
            refine s_forT (ds := (f r d).map PyData.str) (ev_tb (ev_var rfl (tf sA) (stb_tb _ _)) (ev_pair (ev_varS rfl) (ev_varS rfl)) hrR hd)
              (fun H4 n σ4 H4' => (∃ g' x y, σ4 = [some v1, some v2, some v3, some (.str d), some vf, some (.bl bf), some vg, some (.bl bg), some (.str r), g', x, y]) ∧ Same H4 H4' ∧ ∀ y ∈ (f r d).take n, y ≠ d → g y d ≠ [])
              (fun H4 s4 => ⟨⟨_, _, _, rfl⟩, Same.refl _, fun y hy => by simp at hy⟩) (fun H4 n σ4 H4' s4 q => tk_same q.2.1) ?_ ?_
            · rintro H4 n e v σ4 H4' s4 he ⟨⟨g', x, y, rfl⟩, sm4, hy4⟩ rv
              rw [List.getElem?_map] at he
              cases hn : (f r d)[n]? with
              | none => rw [hn] at he; cases he
              | some z =>
                rw [hn] at he
                cases he
                rw [rp_str rv]
                have hzR := fsub z (List.mem_of_getElem? hn)
                have sB := (sA.trans s4).trans sm4
                have hgz := (tb_sub (tg (Same.refl H)) hzR hd).1
                refine s_if (b := !decide (z = d) && decide (g z d = [])) (et_and (et_test (ev_neS (ev_varS rfl) (ev_varS rfl))) fun _ => et_test (ev_is (ev_eqD (A := Dd (tupS (g z d))) (B := Dd (tupS [])) (ev_tb (ev_var rfl (tg sB) (stb_tb _ _)) (ev_pair (ev_varS rfl) (ev_varS rfl)) hzR hd) (stb_d _) (ev_tup (ds := []) ea_nil (by simp)) (fun _ _ p => Rp.dp _ _ p) (fun _ _ p => Rp.dp _ _ p) (shaped_tupS fun x hx => so x (hgz x hx)) (shaped_tupS (by simp))) (by rw [eqv_tupS]))) (fun e H5 s5 => ?_) (fun e H5 s5 => ?_)
                · refine s_set (P := fun v H' => ∃ ls : List Str, Ls (ls.map PyData.str) v H') (ev_catB (ev_repB (x := r) (b := bf) rfl rfl) (ev_repB (x := z) (b := bg) rfl rfl)) fun vt H6 s6 ⟨ls, pt⟩ => ?_
                  refine nx_of ?_
                  have sC := (sB.trans s5).trans s6
                  refine s_ret (P := Dd (.tuple [tupS [r, z], tupS (R.filter fun x => decide (x ∈ ls))])) (ev_tup (ds := [tupS [r, z], tupS (R.filter fun x => decide (x ∈ ls))]) (ea_d (ev_pair (ev_varS rfl) (ev_varS rfl)) (ea_d (ev_tupL (ev_lcTS (fun x => decide (x ∈ ls)) PyData.str (ev_varD rfl (h1.sm sC)) (by omega) (fun _ => rfl) fun x hx H7 s7 => ⟨et_test (ev_inL (ev_varS rfl) (ev_var rfl (stb_l _ _ _ _ s7 pt) (stb_l _))), fun _ => ev_varS rfl⟩)) ea_nil)) (by simp)) ?_
                  exact fun v H7 s7 p => k v H7 (sC.trans s7) (.inr ⟨_, _, p⟩)
                · refine (show (∃ g' x y, _ = [some v1, some v2, some v3, some (V.str d), some vf, some (V.bl bf), some vg, some (V.bl bg), some (V.str r), g', x, y]) ∧ Same H4 H5 ∧ ∀ y ∈ (f r d).take (n + 1), y ≠ d → g y d ≠ [] from ⟨⟨_, _, _, rfl⟩, sm4.trans s5, fun y hy hyd => ?_⟩)
                  rw [take_succ hn, List.mem_append] at hy
                  rcases hy with hy | hy
                  · exact hy4 y hy hyd
                  · rw [List.mem_singleton.mp hy] at hyd ⊢
                    simpa [hyd] using e
            · rintro H4 σ4 H4' s4 ⟨⟨g', x, y, rfl⟩, sm4, hy4⟩
              rw [List.length_map, List.take_length] at hy4
              refine (show (∃ a' g' x y, _ = [some v1, some v2, some v3, some (V.str d), some vf, some (V.bl bf), some vg, some (V.bl bg), a', g', x, y]) ∧ Same H3 H4' ∧ ∀ x ∈ (R.filter fun x => !decide (x = d)).take (m + 1), ∀ y ∈ f x d, y ≠ d → g y d ≠ [] from ⟨⟨_, _, _, _, rfl⟩, (sm3.trans s4).trans sm4, fun x hx => ?_⟩)
              rw [take_succ hk, List.mem_append] at hx
              rcases hx with hx | hx
              · exact hx3 x hx
              · rw [List.mem_singleton.mp hx]
                exact hy4
        · rintro H3 σ3 H3' s3 ⟨⟨a', g', x, y, rfl⟩, sm3, hx3⟩
          rw [List.length_map, List.take_length] at hx3
          refine (show (∃ c e a' g x y, _ = [some v1, some v2, some v3, some (V.str d), some vf, some (V.bl bf), c, e, a', g, x, y]) ∧ Same H2 H3' ∧ ∀ g, Sel t o (j + 1) g → NL R f g d from ⟨⟨_, _, _, _, _, _, rfl⟩, (sm2.trans s3).trans sm3, fun g2 hg2 => ?_⟩)
          have hnew : NL R f g d := fun x hx hxd y hy hyd => hx3 x (List.mem_filter.mpr ⟨hx, by simp [hxd]⟩) y hy hyd
          rcases hg with ⟨rfl, rfl⟩ | ⟨rfl, rfl⟩
          · rcases hg2 with ⟨_, rfl⟩ | ⟨h, _⟩
            · exact hnew
            · omega
          · rcases hg2 with ⟨_, rfl⟩ | ⟨_, rfl⟩
            · exact hnl2 _ (.inl ⟨by omega, rfl⟩)
            · exact hnew
      · rintro H2 σ'' H'' s2 ⟨⟨c, e, a', g', x, y, rfl⟩, sm2, hnl2⟩
        refine (show (∃ a b c e f g x y, _ = [some v1, some v2, some v3, some (V.str d), a, b, c, e, f, g, x, y]) ∧ Same H1 H'' ∧ ∀ f, Sel t o (i + 1) f → NL R f t d ∧ NL R f o d from ⟨⟨_, _, _, _, _, _, _, _, rfl⟩, (sm.trans s2).trans sm2, fun f2 hf2 => ?_⟩)
        have hnew : NL R f t d ∧ NL R f o d := ⟨hnl2 t (.inl ⟨by omega, rfl⟩), hnl2 o (.inr ⟨by omega, rfl⟩)⟩
        rcases hf with ⟨rfl, rfl⟩ | ⟨rfl, rfl⟩
        · rcases hf2 with ⟨_, rfl⟩ | ⟨h, _⟩
          · exact hnew
          · omega
        · rcases hf2 with ⟨_, rfl⟩ | ⟨_, rfl⟩
          · exact hnl _ (.inl ⟨by omega, rfl⟩)
          · exact hnew
    · rintro H1 σ' H' s1 ⟨⟨a, b, c, e, ff, gg, x, y, rfl⟩, sm, hnl⟩
      refine nx_of ?_
      refine s_ret (P := Ex .non) (ev_c fun _ => rfl) ?_
      have n1 := hnl t (.inl ⟨by omega, rfl⟩)
      have n2 := hnl o (.inr ⟨by omega, rfl⟩)
      exact fun v H2 s2 p => k v H2 ((s1.trans sm).trans s2) (.inl ⟨p, n1.1, n1.2, n2.1, n2.2⟩)
abbrev sLoss : Stmt := top 47
theorem scLoss : FnScope ["routers", "tables", "others", "d", "found"] ["routers", "tables", "others"] (defScope sLoss) := ⟨rfl, rfl, rfl, by decide +kernel, rfl, by decide +kernel, by decide +kernel⟩
def spLoss : Sp := fun vs H Q _ => ∃ (v1 v2 v3 : V) (R : List Str) (t o : Str → Str → List Str), vs = [v1, v2, v3] ∧ Rp H v1 (tupS R) ∧ R.length ≤ 10 ∧ (∀ x ∈ R, PyData.strOk x = true) ∧ Tb R t v2 H ∧ Tb R o v3 H ∧ ∀ v H', Same H H' → NonOr (∀ d ∈ R, NoLoss R t o d) IsRef v H' → Q v H'
theorem cal_loss (D : Std K mg "loss" sLoss) (T : Gc mg) (Closs_for : Cal P w K mg base "loss_for" ["routers", "tables", "others", "d"] 1 spLossFor) : Cal P w K mg base "loss" ["routers", "tables", "others"] 2 spLoss := by
  refine D.cal scLoss (fun vs H Q E h => ?_) (fun _ _ _ _ _ _ us hl => match us, hl with | [_, _, _], _ => rfl) (fun f cdv A outer s H vs Q E hr h => ?_)
  · obtain ⟨v1, v2, v3, R, t, o, rfl, _⟩ := h
    rfl
  · obtain ⟨v1, v2, v3, R, t, o, rfl, h1, h8, so, h2, h3, k⟩ := h
    have nd := scLoss.nd
    refine ⟨_, (pss_cons (ps_for PassesOwn.never rfl (k_piT (K := K) (pv 0)) (pg_name (i := 3) nd rfl (Or.inl rfl))
 (pss_cons (ps_set (i := 4) nd rfl (Or.inl rfl) (pe_cal Closs_for (hr.mono (by decide)) (pa_cons (pv 0) (pa_cons (pv 1) (pa_cons (pv 2) (pa_cons (pv 3) pa_nil))))))
 (pss_one (ps_if (pt_cmpR op_notN (pv 4) pe_non (nomark _)) (pss_one (ps_ret (pe_tup (pa_cons (pv 3) (k_star (K := K) (pv 4) pa_nil))))) pss_nil))))
 (pss_one (ps_ret pe_non))), ?_⟩
    refine s_forT (ev_varD rfl h1) (fun H1 i σ' H' => (∃ a b, σ' = [some v1, some v2, some v3, a, b]) ∧ Same H1 H' ∧ ∀ d ∈ R.take i, NoLoss R t o d) (fun H1 s1 => ⟨⟨_, _, rfl⟩, Same.refl _, fun d hd => by simp at hd⟩) (fun H1 i σ' H' s1 q => tk_same q.2.1) ?_ ?_
    · rintro H1 i e v σ' H' s1 he ⟨⟨a, b, rfl⟩, sm, hrk⟩ rv
      rw [List.getElem?_map] at he
      cases hk : R[i]? with
      | none => rw [hk] at he; cases he
      | some d =>
        rw [hk] at he
        cases he
        rw [rp_str rv]
        have s' := s1.trans sm
        refine s_set (P := NonOr (NoLoss R t o d) Pair2) (ev_call (ea_d (ev_varD rfl (h1.sm s')) (ea_cons (ev_var rfl (stb_tb _ _ _ _ _ s' h2) (stb_tb _ _)) (stb_tb _ _) (ea_cons (ev_var rfl (stb_tb _ _ _ _ _ s' h3) (stb_tb _ _)) (stb_tb _ _) (ea_d (ev_varS rfl) ea_nil)))) ?_) fun vf H2 s2 pf => ?_
        · rintro vs H2 s2 ⟨v, r, rfl, p1, u, r2, rfl, p2, w', r3, rfl, p3, z, r4, rfl, p4, rfl⟩ Q' q'
          rw [rp_str p4]
          exact ⟨v, u, w', d, R, t, o, rfl, p1, h8, so, List.mem_of_getElem? hk, p2, p3, q'⟩
        · refine nx_of ?_
          rcases pf with ⟨rfl, hrd⟩ | ⟨x, y, pf⟩
          · refine s_if (b := false) (et_test (ev_op (A := Ex .non) (B := Ex .non) (ev_varX rfl) (stb_x _) (ev_c fun _ => rfl) fun x y H3 s3 p1 p2 Q' q' => ⟨p2, q' _ H3 (Same.refl _) (by rw [p1]; exact .bl false)⟩)) (fun e => by cases e) fun _ H3 s3 => ?_
            refine (show (∃ a b, _ = [some v1, some v2, some v3, a, b]) ∧ Same H1 H3 ∧ ∀ d ∈ R.take (i + 1), NoLoss R t o d from ⟨⟨_, _, rfl⟩, (sm.trans s2).trans s3, fun d' hd' => ?_⟩)
            rw [take_succ hk, List.mem_append] at hd'
            rcases hd' with hd' | hd'
            · exact hrk d' hd'
            · rw [List.mem_singleton.mp hd']
              exact hrd
          · obtain ⟨ap, xs, ev, _⟩ := rp_tup pf
            refine s_if (b := true) (et_test (ev_op (A := Ex vf) (B := Ex .non) (ev_varX rfl) (stb_x _) (ev_c fun _ => rfl) fun x y H3 s3 p1 p2 Q' q' => ⟨p2, q' _ H3 (Same.refl _) (by
              have : decide (x = V.non) = false := decide_eq_false (by rw [p1, ev]; exact fun z => by cases z)
              rw [this]
              exact .bl true)⟩)) (fun _ H3 s3 => ?_) (fun e => by cases e)
            refine s_ret (ev_dFound (i := 3) (j := 4) (d := d) rfl rfl (Rp.sm pf s3)) ?_
            exact fun v H4 s4 p => k v H4 (((s'.trans s2).trans s3).trans s4) (.inr p)
    · rintro H1 σ' H' s1 ⟨⟨a, b, rfl⟩, sm, hrk⟩
      rw [List.length_map, List.take_length] at hrk
      refine nx_of ?_
      refine s_ret (P := Ex .non) (ev_c fun _ => rfl) ?_
      exact fun v H2 s2 p => k v H2 ((s1.trans sm).trans s2) (.inl ⟨p, hrk⟩)
end
end Qt
/-! Qr: mixed. -/
namespace Qt
open PySem PySem.Spec PyProof.Rows L2
theorem dcw_it {J : It} {n : Nat} {G : Hp → Prop} {Y : Nat → Hp → V → Hp → Prop} {o0 : HO} {pt : Hp → Addr → V → V → (Hp → Prop) → Prop} (w : Walk J n G Y) {g : TG} {tt : TT} {tkx tv : TE} {vs : List Nat} {σ : L2.St} {H1 : Hp} {D : Addr} {Qd : Hp → Prop} (Pv : Nat → Hp → Prop) (h0 : Pv 0 (upd H1 D o0)) (hG : ∀ i H, i ≤ n → Pv i H → G H)
    (hs : ∀ i x H H', i < n → Pv i H → Y i H x H' → g x (wipe σ vs) H' fun σ2 H2 => wipe σ2 vs = wipe σ vs ∧ tt σ2 H2 fun b H3 =>
      if b = true then tkx σ2 H3 fun y H4 => tv σ2 H4 fun z H5 => pt H5 D y z (Pv (i + 1)) else Pv (i + 1) H3) (hd : ∀ H, Pv n H → Qd H) :
    ∃ W : Nat → Nat → Hp → Prop, (∃ m, W 0 m (upd H1 D o0)) ∧ ∀ i m H, W i m H →
      (J.stop i H ∧ Qd H) ∨ (J.go i H ∧ ∃ Nx : Hp → Prop, (∀ H', Nx H' → ∃ m', m' < m ∧ W (i + 1) m' H') ∧ ∀ x H', J.yld i H x H' → g x (wipe σ vs) H' fun σ2 H2 => wipe σ2 vs = wipe σ vs ∧ tt σ2 H2 fun b H3 =>
        if b = true then tkx σ2 H3 fun y H4 => tv σ2 H4 fun z H5 => pt H5 D y z Nx else Nx H3) := by
  refine ⟨fun i m H => m = n - i ∧ i ≤ n ∧ Pv i H, ⟨n, by simp, Nat.zero_le _, h0⟩, ?_⟩
  rintro i m H ⟨rfl, hi, p⟩
  have q := hG i H hi p
  by_cases hlt : i < n
  · exact .inr ⟨w.goes i H hlt q, Pv (i + 1), fun H' p' => ⟨n - (i + 1), by omega, rfl, hlt, p'⟩, fun x H' y => hs i x H H' hlt p (w.yields i H x H' hlt q y)⟩
  · have e : i = n := by omega
    subst e
    exact .inl ⟨w.stops H q, hd H p⟩
def mixF (t o : Str → Str → List Str) (M : List Str) (a d : Str) : List Str := if a ∈ M then o a d else t a d
/-- a dict stays to be read when a dict is locked -/
theorem dt_lock {H : Hp} {L : Addr} {kvs : List (List Key × V)} {od : Obj} {l : List (List Str × PyData)} {v : V} (hL : H L = some (.dT kvs)) (h : Dt l v H) : Dt l v (upd H L (.frz od (.dT kvs))) := by
  obtain ⟨a, ks, e, rd, kv⟩ := h
  refine ⟨a, ks, e, ?_, kv.up (tk_upd fun xs z => by rw [hL] at z; cases z)⟩
  by_cases z : a = L
  · subst z
    rcases rd with rd | ⟨o, rd⟩
    · rw [hL] at rd
      cases rd
      exact .inr ⟨od, upd_same⟩
    · rw [hL] at rd
      cases rd
  · rcases rd with rd | ⟨o, rd⟩
    · exact .inl (by rw [upd_ne z]; exact rd)
    · exact .inr ⟨o, by rw [upd_ne z]; exact rd⟩
section
variable {P : Program} {w : World} {K : PySem.W.Frag} {mg : Str → Option Value} {base : Heap} {C : Addr}
abbrev sMixed : Stmt := top 19
theorem scMixed : FnScope ["tables", "others", "moment", "pair"] ["tables", "others", "moment"] (defScope sMixed) := ⟨rfl, rfl, rfl, by decide +kernel, rfl, by decide +kernel, by decide +kernel⟩
def spMixed : Sp := fun vs H Q _ => ∃ (v1 v2 v3 : V) (R M : List Str) (t o : Str → Str → List Str), vs = [v1, v2, v3] ∧ Tb R t v1 H ∧ Tb R o v2 H ∧ Rp H v3 (tupS M) ∧ ∀ v H', Same H H' → Tb R (mixF t o M) v H' → Q v H'
theorem cal_mixed (D : Std K mg "mixed" sMixed) (T : Gc mg) : Cal P w K mg base "mixed" ["tables", "others", "moment"] 1 spMixed := by
  refine D.cal scMixed (fun vs H Q E h => ?_) (fun _ _ _ _ _ _ us hl => match us, hl with | [_, _, _], _ => rfl) (fun f cdv A outer s H vs Q E hr h => ?_)
  · obtain ⟨v1, v2, v3, R, M, t, o, rfl, _⟩ := h
    rfl
  · obtain ⟨v1, v2, v3, R, M, t, o, rfl, ⟨L, tab, rfl, ok, kvs, hL, kv⟩, h2, h3, k⟩ := h
    have nd := scMixed.nd
    have hu := hu_of hr
    refine ⟨_, (pss_one (ps_ret (pe_lock (pe_dcW (dcw_T (Nat.lt_of_succ_lt hu)) (own := [("pair", 3)]) rfl nd (pi_keys (pv 0)) (blkOk_by (by kernel_rfl)) (fun _ _ _ _ _ => (pg_name (i := 3) nd rfl (Or.inl rfl))) (fun _ _ _ _ _ => pts_nil) (fun _ _ _ _ _ => (pv 3)) (fun _ _ _ _ _ => (pe_ifExp (pt_cmpR (k_in (K := K)) (pe_ix (k_ixT (K := K)) (pv 3) pe_int (fun _ _ => rfl)) (pv 2) rfl) (pe_dget hu (pv 1) (pv 3) (fun _ _ => rfl)) (pe_dget hu (pv 0) (pv 3) (fun _ _ => rfl)))))))), ?_⟩
    obtain ⟨tab2, ok2, d2⟩ := tb_dt h2
    refine ⟨L, _, hL, True.intro, fun od => ?_⟩
    have tkl : Tk H (upd H L (.frz od (.dT kvs))) := tk_upd fun xs z => by rw [hL] at z; cases z
    have dL : Dt tab (.ref L) (upd H L (.frz od (.dT kvs))) := dt_lock hL ⟨L, kvs, rfl, .inl hL, kv⟩
    have dO : Dt tab2 v2 (upd H L (.frz od (.dT kvs))) := dt_lock hL d2
    have rM : Rp (upd H L (.frz od (.dT kvs))) v3 (tupS M) := h3.up tkl
    have hLf : (upd H L (.frz od (.dT kvs))) L = some (.frz od (.dT kvs)) := upd_same
    have same0 : ∀ {H'}, Same (upd H L (.frz od (.dT kvs))) H' → Same H (upd H' L (.dT kvs)) := fun s => same_unlock hL s
    generalize upd H L (.frz od (.dT kvs)) = Hl at dL dO rM hLf same0
    refine ⟨.ref L, rfl, L, od, rfl, .inr ⟨kvs, hLf, fun D0 hD => ?_⟩⟩
    have kvl : kvs.length = tab.length := kv.len
    let val : List Str × PyData → List Str × PyData := fun p => (p.1, tupS (mixF t o M (p.1.headD "") ((p.1.drop 1).headD "")))
    refine dcw_it walk_keysT (fun i H' => SmX D0 Hl H' ∧ DT H' D0 ((tab.take i).map val)) ⟨(SmX.refl _).upd, ⟨_, upd_same, .nil⟩⟩ (fun i H' _ q => q.1 L _ (ne_of_none hLf hD) hLf) ?_ ?_
    · rintro i x H' H'' hi ⟨q1, q2⟩ ⟨rfl, kk, v, q, hk, rfl, hq⟩
      obtain ⟨key, dd, htab, rfl, rv⟩ := kv.at_ hk
      rw [tk_kV] at hq
      obtain ⟨a, ha, d, hd, epd⟩ := ok.mem _ (List.mem_of_getElem? htab)
      cases epd
      have sm : Same Hl H'' := q1.same (Same.refl _) hD
      have rk : Rp H'' (.ref q) (tupS [a, d]) := rp_tupS_of hq
      have dL' := stb_dt _ _ _ _ sm dL
      have dO' := stb_dt _ _ _ _ sm dO
      have rM' := rM.sm sm
      refine ⟨rfl, ?_⟩
      show ∃ v, _ ∧ _
      refine ⟨_, rfl, ?_⟩
      have evv : Ev (tIf (tTest (tOp (rIn K false) (tOp (rIxT K) (tVar 3) (tC (.int 0))) (tVar 2))) (tDGet (tVar 1) (tVar 3)) (tDGet (tVar 0) (tVar 3))) [some (.ref L), some v2, some v3, some (.ref q)] H'' (Dd (tupS (mixF t o M a d))) := by
        refine ev_if (b := decide (a ∈ M)) (et_test (ev_inT (x := a) (ev_ixT (j := 0) (ev_varD rfl rk) ev_int rfl rfl) (ev_varD rfl rM'))) (fun e => ?_) (fun e => ?_)
        · have e' := of_decide_eq_true e
          exact ev_is (ev_dgetT (k := [a, d]) (ev_var rfl dO' (stb_dt _)) (ev_varD rfl rk) (ok2.get a ha d hd)) (by unfold mixF; rw [if_pos e'])
        · have e' := of_decide_eq_false e
          exact ev_is (ev_dgetT (k := [a, d]) (ev_var rfl dL' (stb_dt _)) (ev_varD rfl rk) (ok.get a ha d hd)) (by unfold mixF; rw [if_neg e'])
      refine evv H'' (Same.refl _) _ fun z H5 s5 pz => ?_
      obtain ⟨ks, f1, f2⟩ := q2
      have f1' := s5 _ _ f1
      have hlen : ks.length = (tab.take i).length := by rw [f2.len, List.length_map]
      have hsmall : ks.length < sizeLine := by
        have h4 := ok.few
        rw [List.length_take] at hlen
        exact Nat.lt_of_le_of_lt (show ks.length ≤ 1000 by omega) (by decide)
      refine ⟨ks, tk [a, d], q, rfl, by rw [tk_kV]; exact s5 _ _ hq, f1', hsmall, (q1.trans (.of s5)).upd, ?_⟩
      have hnone : al ((tab.take i).map val) [a, d] = none := by
        rw [al_none]
        intro p hp e
        obtain ⟨p', hp', rfl⟩ := List.mem_map.mp hp
        have e' : p'.1 = [a, d] := e
        obtain ⟨j, hj, rfl⟩ := List.getElem_of_mem hp'
        rw [List.length_take] at hj
        rw [List.getElem_take] at e'
        have hi' : i < tab.length := (List.getElem?_eq_some_iff.mp htab).1
        have h7 : tab[i].1 = [a, d] := by rw [(List.getElem?_eq_some_iff.mp htab).2]
        have := (List.pairwise_iff_getElem.mp ok.nodup) j i (by rw [List.length_map]; omega) (by rw [List.length_map]; exact hi') (by omega)
        rw [List.getElem_map, List.getElem_map] at this
        exact this (e'.trans h7.symm)
      have tkD : ∀ o, Tk H5 (upd H5 D0 o) := fun o => tk_upd fun xs z => by rw [f1'] at z; cases z
      have hput : aput ((tab.take i).map val) [a, d] (tupS (mixF t o M a d)) = (tab.take (i + 1)).map val := by
        rw [aput_new _ hnone, take_succ htab, List.map_append] <;> rfl
      rw [← hput]
      exact ⟨_, upd_same, (((f2.sm s5).put tk_inj pz).up (tkD _))⟩
    · rintro H' ⟨q1, q2⟩
      rw [kvl, List.take_length] at q2
      have sm : Same Hl H' := q1.same (Same.refl _) hD
      refine ⟨sm _ _ hLf, ?_⟩
      have nD : D0 ≠ L := fun z => by
        subst z
        rw [hLf] at hD
        cases hD
      refine k _ _ (same0 sm) ⟨D0, tab.map val, rfl, ?_, ?_⟩
      · have ev : ∀ p ∈ tab, ∃ a ∈ R, ∃ d ∈ R, val p = ([a, d], tupS (mixF t o M a d)) := fun p hp => by
          obtain ⟨a, ha, d, hd, rfl⟩ := ok.mem p hp
          exact ⟨a, ha, d, hd, rfl⟩
        have ek : (tab.map val).map (·.1) = tab.map (·.1) := by
          rw [List.map_map]
          exact List.map_congr_left fun p _ => rfl
        have nodup' : ((tab.map val).map (·.1)).Nodup := by rw [ek]; exact ok.nodup
        refine ⟨fun a ha d hd => ?_, fun p hp => ?_, nodup', by rw [List.length_map]; exact ok.few, fun a ha d hd x hx => ?_, fun a ha d hd => ?_⟩
        · have hm := al_mem (ok.get a ha d hd)
          have hm2 : ([a, d], tupS (mixF t o M a d)) ∈ tab.map val := List.mem_map.mpr ⟨_, hm, rfl⟩
          exact al_of_mem nodup' hm2
        · obtain ⟨p', hp', rfl⟩ := List.mem_map.mp hp
          exact ev p' hp'
        · unfold mixF at hx
          split at hx
          · exact ok2.sub a ha d hd x hx
          · exact ok.sub a ha d hd x hx
        · unfold mixF
          split
          · exact ok2.len a ha d hd
          · exact ok.len a ha d hd
      · obtain ⟨ks, f1, f2⟩ := q2
        refine ⟨ks, by rw [upd_ne nD]; exact f1, f2.up (tk_upd fun xs z => ?_)⟩
        rw [sm _ _ hLf] at z
        cases z
end
end Qt
/-! Qs: an attribute as a target; the display {(): ()}. -/
namespace Qt
open PySem PySem.Spec PyProof.Rows L2
def gFld (K : PySem.W.Frag) (ta : TE) (f : Str) : TG := fun v σ H Q => ta σ H fun x H1 => ∃ a C dx fs, x = .ref a ∧ H1 a = some (.ins C dx fs) ∧ Cls K C ∧ NoAttr K C f ∧ fs.length < 1000 ∧ Q σ (upd H1 a (.ins C dx (putF f v fs)))
theorem pg_fld {X : Cx} {o : Expr} {f : Str} {pos : Pos} {ta : TE} (ho : PE X o ta) : PG X (.Attribute o f pos) (gFld X.K ta f) := by
  refine ⟨fun pins s σ H v u Q I r h => ?_⟩
  rw [assign_Attribute]
  refine wpAny_bind (wpAny_holding (thn (ho.run pins s σ H _ I h) fun ov s1 ⟨x, H1, I1, r1, a, C, dx, fs, ex, ea, c, n, l, q1⟩ => ?_))
  subst ex
  obtain rfl : ov = Value.ref a := r1
  refine wpAny_bind (wpAny_standAt (wpAny_bind (wpAny_holding (setattr_ok I1 ea c n l r fun s2 I2 => ?_))))
  exact wpAny_release ⟨σ, _, I2, q1⟩
theorem k_gfld {X : Cx} {K : PySem.W.Frag} {o : Expr} {f : Str} {pos : Pos} {ta : TE} (ho : PE X o ta) (hK : X.K = K := by rfl) : PG X (.Attribute o f pos) (gFld K ta f) := hK ▸ pg_fld ho
/-- {k: v}, k a tuple -/
def tDispT1 (tkx tv : TE) : TE := fun σ H Q => ∀ p, H p = none → tkx σ (upd H p (.dT [])) fun x H1 => tv σ H1 fun y H2 => ∃ b k, x = .ref b ∧ H2 b = some (.tup (k.map kV)) ∧ H2 p = some (.dT []) ∧ Q (.ref p) (upd H2 p (.dT [(k, y)]))
theorem pe_dispT1 {X : Cx} {pos : Pos} {k v : Expr} {tkx tv : TE} (hu : X.A.units + 1 < cLine) (hk : PE X k tkx) (hv : PE X v tv) : PE X (.Dict [some k] [v] pos) (tDispT1 tkx tv) := by
  refine ⟨fun pins s σ H Q I q => ?_⟩
  have hn := I.hok.fresh (Nat.le_refl s.heap.objs.size)
  have I1 := I.laid (a := s.heap.objs.size) (o := .dT []) (h' := s.heap.push { cls := .type "dict", data := .dict #[] }) (t' := s.toks) (fun _ _ q => Heap.get?_push_of_some _ q) (Nat.le_refl _) (dt_empty s.heap I.big)
  refine wpAny_Dict_any rfl rfl (fun z => by cases z) (by show 1 ≤ 15; decide) ?_
  have hpp : PPs X pos [some k] [v] [(tkx, tv)] := pps_cons hk hv pps_nil
  refine thn (hpp.run pins _ σ _ (fun ps H2 => match ps with
    | [(x, y)] => ∃ b kk, x = .ref b ∧ H2 b = some (.tup (kk.map kV)) ∧ H2 s.heap.objs.size = some (.dT []) ∧ Q (.ref s.heap.objs.size) (upd H2 s.heap.objs.size (.dT [(kk, y)]))
    | _ => False) I1 (q _ hn)) fun ws s2 ⟨ps, H2, I2, rel, q2⟩ => ?_
  match ps, q2 with
  | [(x, y)], q2 =>
    obtain ⟨b, kk, e1, e2, e3, q2⟩ := q2
    cases rel with
    | @cons _ w0 _ ws' r0 rr =>
      cases rr
      obtain ⟨r1, r2⟩ := r0
      obtain ⟨u1, u2⟩ := w0
      have r1' : RelV x u1 := r1
      have r2' : RelV y u2 := r2
      rw [e1] at r1'
      cases (show u1 = Value.ref b from r1')
      obtain ⟨z, hd, xs, rel2, dd⟩ := dt_of I2.hok e3
      cases rel2
      unfold storeAll
      rw [List.forIn_cons]
      refine wpAny_bind (wpAny_bind (wpAny_dictSet_heap (hsz := by show 0 ≤ sizeLine; exact Nat.zero_le _) (knd := tupleKind (mixKind X.prog X.w)) (Nat.lt_of_succ_lt hu) (key_of I2.hok e2) dd fun h' dd' hs => wpAny_pure ?_))
      show wpAny _ _ (forIn ([] : List (Value × Value)) PUnit.unit _) _ _ _
      rw [List.forIn_nil]
      refine wpAny_pure ?_
      obtain ⟨qo, es, ep, hq, h2, h3, h4, _, h5⟩ := dd'
      have new : ObjOk X.prog X.w (upd H2 s.heap.objs.size (.dT [(kk, y)])) h' s.heap.objs.size (.dT [(kk, y)]) := by
        refine ⟨by show 1 ≤ sizeLine; decide, hd, _, ?_, qo, es, ep, hq, h2, h3, h4, h5⟩
        refine KT.keeps (H := H2) (KT.put (y := y) (u := u2) (b := b) Paired.nil kk e2 r2') fun c ys ec => ?_
        rw [upd_ne (ne_of ec e3 (fun z => nomatch z))]
        exact ec
      exact ⟨.ref s.heap.objs.size, _, d_write (t' := s2.toks + (tupleKind (mixKind X.prog X.w)).draws kk) I2 (by rw [e3]; exact True.intro) hs ⟨qo, hq⟩ new, rfl, q2⟩
end Qt
/-! Qu: Telling. -/
namespace Qt
open PySem PySem.Spec PyProof.Rows L2
/-! ### methods -/
def Mtd (K : PySem.W.Frag) (C : Addr) (m q : Str) (st : Stmt) : Prop := ∃ f fd, Meth K C m f ∧ FunD K m q (defArgs st) (defBody st) (defScope st) [] [] f fd
def Mcal (P : Program) (w : World) (K : PySem.W.Frag) (mg : Str → Option Value) (base : Heap) (C : Addr) (m : Str) (ps : List Str) (k : Nat) (sp : Sp) : Prop := ∃ f fd, Cls K C ∧ Meth K C m f ∧ FnOk P w K mg base CX0 k f fd ps sp ∧ Binds K fd ps []
section
variable {P : Program} {w : World} {K : PySem.W.Frag} {mg : Str → Option Value} {base : Heap} {C : Addr} {m q : Str} {ps : List Str} {k : Nat} {sp : Sp} {st : Stmt}
theorem Mtd.cal (D : Mtd K C m q st) (c : Cls K C) (S : FnScope N ps (defScope st)) (len : ∀ vs H Q E, sp vs H Q E → vs.length = ps.length)
    (hb : ∀ (kV doc pm : Value) (an : Option Addr) (cdv ct : Value) (us : List Value), us.length = ps.length → bindArgs (PySem.W.fnOf m q (defArgs st) (defBody st) (defScope st) .none kV doc pm an cdv ct) ⟨us, []⟩ = pure (ps.zip us))
    (hbody : ∀ (f : Addr) (cdv : Value) (A : Around) (outer : List Env) (s : Shared) (H : Hp) (vs : List V) (Q : VK) (E : XK), Room k (A.deeper (envOfC q (defScope st) s.heap.objs.size f cdv)) → sp vs H Q E →
      ∃ t, PSs (cxOf CX0 P w K mg base N q (defScope st) f cdv A outer s H E).nox (defBody st) t ∧ t { nx := fun _ H' => Q .non H', rt := Q } (start N vs) H) : Mcal P w K mg base C m ps (k + 1) sp := by
  obtain ⟨f, fd, hm, F⟩ := D
  refine ⟨f, fd, c, hm, ?_, F.bindsN hb⟩
  refine F.ok S len fun cdv A outer s H vs Q E hr h => ?_
  obtain ⟨t, h1, h2⟩ := hbody f cdv A outer s H vs Q E hr h
  exact ⟨t, h1.nox, h2⟩
end
section
variable {X : Cx} {C : Addr} {m : Str} {ps : List Str} {k : Nat} {sp : Sp} {o e : Expr} {es : List Expr} {apos pos : Pos} {ta : TE} {t : TA}
theorem pe_mcal {pl : Sem Bool} (c : Mcal X.prog X.w X.K X.mg X.base C m ps k sp) (he : PE X o ta) (hr : Room k X.A) (ha : PA X (e :: es) t)
    (hst : starEach (e :: es) X.env = (false, eval e X.env) :: starEach es X.env := by rfl) (hpl : (backTo pos (starEach es X.env)).any (·.1) = false := by rfl)
    (ht : eval (.Call (.Attribute o m apos) (e :: es) [] pos) X.env = (do
      let ov ← eval o X.env
      standAt apos.atName
      let (f, first) ← holding [ov] (getMethod ov m pl)
      callWith pos f first (backTo pos (starEach (e :: es) X.env)) (backToKw pos (keywordEach [] X.env))) := by rfl) :
    PE X (.Call (.Attribute o m apos) (e :: es) [] pos) (tMeth C m sp [] E0 ta t) := by
  obtain ⟨f, fd, hc, hm, F, b⟩ := c
  exact pe_meth (pl := pl) he hc hm F hr b .nil pass0 ha hst hpl ht
theorem pe_mcal0 {pl : Sem Bool} (c : Mcal X.prog X.w X.K X.mg X.base C m ps k sp) (he : PE X o ta) (hr : Room k X.A)
    (ht : eval (.Call (.Attribute o m apos) [] [] pos) X.env = (do
      let ov ← eval o X.env
      standAt apos.atName
      let (f, first) ← holding [ov] (getMethod ov m pl)
      callWith pos f first (backTo pos (starEach [] X.env)) (backToKw pos (keywordEach [] X.env))) := by rfl) :
    PE X (.Call (.Attribute o m apos) [] [] pos) (tMeth C m sp [] E0 ta tNil) := by
  obtain ⟨f, fd, hc, hm, F, b⟩ := c
  exact pe_meth0 (pl := pl) he hc hm F hr b .nil pass0 ht
end
theorem k_sfld {X : Cx} {K : PySem.W.Frag} {o value : Expr} {f : Str} {pos pos' : Pos} {ta tv : TE} (ha : PE X o ta) (hv : PE X value tv) (hs : swapsWith value (some (.Attribute o f pos')) pos.line X.env = pure false) (hK : X.K = K := by rfl) : PS X (.Assign [.Attribute o f pos'] value pos) (sFld K ta tv f) := hK ▸ ps_fld ha hv hs
/-! ### Telling -/
structure TelC (K : PySem.W.Frag) (C : Addr) : Prop where
  cls : Cls K C
  nr : NoAttr K C "own_routers"
  nt : NoAttr K C "own_tables"
  no : NoAttr K C "own_others"
def telF (vr vt vo : V) : List (Str × V) := [("own_routers", vr), ("own_tables", vt), ("own_others", vo)]
def TelD (C : Addr) (R : List Str) (t o : Str → Str → List Str) : VP := fun v H => ∃ a dx vr vt vo, v = .ref a ∧ H a = some (.ins C dx (telF vr vt vo)) ∧ Rp H vr (tupS R) ∧ Tb R t vt H ∧ Tb R o vo H
theorem stb_tel (C : Addr) (R : List Str) (t o : Str → Str → List Str) : Stb (TelD C R t o) := fun v H H' s ⟨a, dx, vr, vt, vo, e, h, r1, r2, r3⟩ => ⟨a, dx, vr, vt, vo, e, s _ _ h, r1.sm s, stb_tb _ _ _ _ _ s r2, stb_tb _ _ _ _ _ s r3⟩
section
variable {K : PySem.W.Frag} {σ : L2.St} {H : Hp} {te : TE} {C : Addr} {R : List Str} {t o : Str → Str → List Str}
theorem ev_telR (T : TelC K C) (h : Ev te σ H (TelD C R t o)) : Ev (tFld K te "own_routers") σ H (Dd (tupS R)) := fun H1 s Q q => h H1 s _ fun v H2 s2 ⟨a, dx, vr, vt, vo, e, ha, r1, r2, r3⟩ => ⟨a, C, dx, _, vr, e, ha, T.cls, T.nr, rfl, q _ H2 s2 r1⟩
theorem ev_telT (T : TelC K C) (h : Ev te σ H (TelD C R t o)) : Ev (tFld K te "own_tables") σ H (Tb R t) := fun H1 s Q q => h H1 s _ fun v H2 s2 ⟨a, dx, vr, vt, vo, e, ha, r1, r2, r3⟩ => ⟨a, C, dx, _, vt, e, ha, T.cls, T.nt, rfl, q _ H2 s2 r2⟩
theorem ev_telO (T : TelC K C) (h : Ev te σ H (TelD C R t o)) : Ev (tFld K te "own_others") σ H (Tb R o) := fun H1 s Q q => h H1 s _ fun v H2 s2 ⟨a, dx, vr, vt, vo, e, ha, r1, r2, r3⟩ => ⟨a, C, dx, _, vo, e, ha, T.cls, T.no, rfl, q _ H2 s2 r3⟩
/-- a word of what a bool says -/
def BoolP (p : Prop) : VP := fun v _ => ∃ b, v = .bl b ∧ (b = true → p)
theorem stb_bp (p : Prop) : Stb (BoolP p) := fun _ _ _ _ h => h
theorem ev_andP {ta tb : TE} {p q : Prop} (ha : Ev ta σ H (BoolP p)) (hb : p → Ev tb σ H (BoolP q)) : Ev (tAndV ta tb) σ H (BoolP (p ∧ q)) := fun H1 s Q k => ha H1 s _ fun v H2 s2 ⟨b, e, hp⟩ => ⟨b, e, by
  cases b with
  | true =>
    show tb σ H2 Q
    exact hb (hp rfl) H2 (s.trans s2) Q fun v H3 s3 ⟨c, e', hq⟩ => k v H3 (s2.trans s3) ⟨c, e', fun z => ⟨hp rfl, hq z⟩⟩
  | false =>
    show Q (.bl false) H2
    exact k _ H2 s2 ⟨false, rfl, fun z => by cases z⟩⟩
theorem ev_isNone {ta : TE} {p : Prop} (ha : Ev ta σ H (NonOr p IsRef)) : Ev (tOp (fun x y H Q => y = .non ∧ Q (.bl (decide (x = .non))) H) ta (tC .non)) σ H (BoolP p) := fun H1 s Q q => ha H1 s _ fun v H2 s2 h => ⟨rfl, q _ H2 s2 ⟨_, rfl, fun z => by
  rcases h with ⟨_, hp⟩ | ⟨a, e⟩
  · exact hp
  · rw [e] at z
    cases of_decide_eq_true z⟩⟩
end
/-- sound -/
def Snd (R : List Str) (t o : Str → Str → List Str) (M s : List Str) : Prop := (∀ d ∈ R, Ranked R (lkF R (mixF t o M) (mixF t o (tog R M s)) d)) ∧ ∀ d ∈ R, NoLoss R (mixF t o M) (mixF t o (tog R M s)) d
def tel (i : Nat) : Stmt := (C8.clsBody (top 51)).getD i (.Pass ⟨0, 0, 0, 0⟩)
section
variable {P : Program} {w : World} {K : PySem.W.Frag} {mg : Str → Option Value} {base : Heap} {C CN : Addr}
abbrev sIsSound : Stmt := tel 1
theorem scIsSound : FnScope ["self", "moment", "some", "here", "there"] ["self", "moment", "some"] (defScope sIsSound) := ⟨rfl, rfl, rfl, by decide +kernel, rfl, by decide +kernel, by decide +kernel⟩
def spIsSound (C : Addr) : Sp := fun vs H Q _ => ∃ (v1 v2 v3 : V) (R M s : List Str) (t o : Str → Str → List Str), vs = [v1, v2, v3] ∧ TelD C R t o v1 H ∧ Rp H v2 (tupS M) ∧ Rp H v3 (tupS s) ∧ R.length ≤ 10 ∧ (∀ x ∈ R, PyData.strOk x = true) ∧ ∀ v H', Same H H' → BoolP (Snd R t o M s) v H' → Q v H'
theorem cal_is_sound (D : Mtd K C "is_sound" "Telling.is_sound" sIsSound) (T : TelC K C) (Cmixed : Cal P w K mg base "mixed" ["tables", "others", "moment"] 1 spMixed) (Ctogether : Cal P w K mg base "together" ["routers", "moment", "some"] 1 spTogether) (Cturns : Cal P w K mg base "turns" ["routers", "tables", "others"] 3 spTurns) (Closs : Cal P w K mg base "loss" ["routers", "tables", "others"] 2 spLoss) :
    Mcal P w K mg base C "is_sound" ["self", "moment", "some"] 4 (spIsSound C) := by
  refine D.cal T.cls scIsSound (fun vs H Q E h => ?_) (fun _ _ _ _ _ _ us hl => match us, hl with | [_, _, _], _ => rfl) (fun f cdv A outer s H vs Q E hr h => ?_)
  · obtain ⟨v1, v2, v3, R, M, s, t, o, rfl, _⟩ := h
    rfl
  · obtain ⟨v1, v2, v3, R, M, s', t, o, rfl, h1, h2, h3, h8, so, k⟩ := h
    have nd := scIsSound.nd
    refine ⟨_, (pss_cons (ps_set (i := 3) nd rfl (Or.inl rfl) (pe_cal Cmixed (hr.mono (by decide)) (pa_cons (k_fld (K := K) (pv 0)) (pa_cons (k_fld (K := K) (pv 0)) (pa_cons (pv 1) pa_nil)))))
 (pss_cons (ps_set (i := 4) nd rfl (Or.inl rfl) (pe_cal Cmixed (hr.mono (by decide)) (pa_cons (k_fld (K := K) (pv 0)) (pa_cons (k_fld (K := K) (pv 0)) (pa_cons (pe_cal Ctogether (hr.mono (by decide)) (pa_cons (k_fld (K := K) (pv 0)) (pa_cons (pv 1) (pa_cons (pv 2) pa_nil)))) pa_nil)))))
 (pss_one (ps_ret (pe_and (pe_cmpR op_isN (pe_cal Cturns (hr.mono (by decide)) (pa_cons (k_fld (K := K) (pv 0)) (pa_cons (pv 3) (pa_cons (pv 4) pa_nil)))) pe_non (nomark _)) (pe_one (pe_cmpR op_isN (pe_cal Closs (hr.mono (by decide)) (pa_cons (k_fld (K := K) (pv 0)) (pa_cons (pv 3) (pa_cons (pv 4) pa_nil)))) pe_non (nomark _)))))))), ?_⟩
    refine s_set (P := Tb R (mixF t o M)) (ev_call (ea_cons (ev_telT T (ev_var rfl h1 (stb_tel _ _ _ _))) (stb_tb _ _) (ea_cons (ev_telO T (ev_var rfl h1 (stb_tel _ _ _ _))) (stb_tb _ _) (ea_d (ev_varD rfl h2) ea_nil))) ?_) fun v4 H1 s1 p1 => ?_
    · rintro vs H1 s1 ⟨v, r, rfl, p1, u, r2, rfl, p2, w', r3, rfl, p3, rfl⟩ Q' q'
      exact ⟨v, u, w', R, M, t, o, rfl, p1, p2, p3, q'⟩
    refine nx_of ?_
    have h1' := stb_tel _ _ _ _ _ _ _ s1 h1
    refine s_set (P := Tb R (mixF t o (tog R M s'))) (ev_call (ea_cons (ev_telT T (ev_var rfl h1' (stb_tel _ _ _ _))) (stb_tb _ _) (ea_cons (ev_telO T (ev_var rfl h1' (stb_tel _ _ _ _))) (stb_tb _ _) (ea_d (d := tupS (tog R M s')) (ev_call (ea_d (ev_telR T (ev_var rfl h1' (stb_tel _ _ _ _))) (ea_d (ev_varD rfl (h2.sm s1)) (ea_d (ev_varD rfl (h3.sm s1)) ea_nil))) ?_) ea_nil))) ?_) fun v5 H2 s2 p2 => ?_
    · rintro vs H1 s1 ⟨v, r, rfl, p1, u, r2, rfl, p2, w', r3, rfl, p3, rfl⟩ Q' q'
      exact ⟨v, u, w', R, M, s', rfl, p1, p2, p3, by omega, q'⟩
    · rintro vs H1 s1 ⟨v, r, rfl, p1, u, r2, rfl, p2, w', r3, rfl, p3, rfl⟩ Q' q'
      exact ⟨v, u, w', R, _, t, o, rfl, p1, p2, p3, q'⟩
    refine nx_of ?_
    have h2' := stb_tel _ _ _ _ _ _ _ s2 h1'
    have p1' := stb_tb _ _ _ _ _ s2 p1
    refine s_ret (P := BoolP ((∀ d ∈ R, Ranked R (lkF R (mixF t o M) (mixF t o (tog R M s')) d)) ∧ ∀ d ∈ R, NoLoss R (mixF t o M) (mixF t o (tog R M s')) d)) (ev_andP (ev_isNone (ev_call (ea_d (ev_telR T (ev_var rfl h2' (stb_tel _ _ _ _))) (ea_cons (ev_var rfl p1' (stb_tb _ _)) (stb_tb _ _) (ea_cons (ev_var rfl p2 (stb_tb _ _)) (stb_tb _ _) ea_nil))) ?_)) fun _ => ev_isNone (ev_call (ea_d (ev_telR T (ev_var rfl h2' (stb_tel _ _ _ _))) (ea_cons (ev_var rfl p1' (stb_tb _ _)) (stb_tb _ _) (ea_cons (ev_var rfl p2 (stb_tb _ _)) (stb_tb _ _) ea_nil))) ?_)) ?_
    · rintro vs H3 s3 ⟨v, r, rfl, p1, u, r2, rfl, p2, w', r3, rfl, p3, rfl⟩ Q' q'
      exact ⟨v, u, w', R, _, _, rfl, p1, h8, so, p2, p3, q'⟩
    · rintro vs H3 s3 ⟨v, r, rfl, p1, u, r2, rfl, p2, w', r3, rfl, p3, rfl⟩ Q' q'
      exact ⟨v, u, w', R, _, _, rfl, p1, h8, so, p2, p3, q'⟩
    · exact fun v H3 s3 p => k v H3 ((s1.trans s2).trans s3) p
/-! __init__ -/
abbrev sTelInit : Stmt := tel 0
theorem scTelInit : FnScope ["self", "old", "new"] ["self", "old", "new"] (defScope sTelInit) := ⟨rfl, rfl, rfl, by decide +kernel, rfl, by decide +kernel, by decide +kernel⟩
def spTelInit (C CN : Addr) : Sp := fun vs H Q _ => ∃ (a dx : Addr) (v1 v2 : V) (R : List Str) (ls ls' : List Lk), vs = [.ref a, v1, v2] ∧ H a = some (.ins C dx []) ∧ NetD CN R ls v1 H ∧ NetD CN R ls' v2 H ∧ R.length ≤ 10 ∧ ls.length ≤ 16 ∧ ls'.length ≤ 16 ∧ (∀ x ∈ R, PyData.strOk x = true) ∧
  ∀ H', SmX a H H' → TelD C R (tblF R (lens ls)) (tblF R (lens ls')) (.ref a) H' → Q .non H'
theorem net_x {CN : Addr} {R : List Str} {ls : List Lk} {v : V} {a dx : Addr} {fs : List (Str × V)} {H H' : Hp} (ha : H a = some (.ins C dx fs)) (n : v ≠ .ref a) (s : SmX a H H') (h : NetD CN R ls v H) : NetD CN R ls v H' := by
  obtain ⟨b, dx, fs, vr, vl, rfl, hb, l1, l2, r1, r2⟩ := h
  have t : Tk H H' := s.tk fun xs z => by rw [ha] at z; cases z
  exact ⟨b, dx, fs, vr, vl, rfl, s b _ (fun z => n (by rw [z])) hb, l1, l2, r1.up t, r2.up t⟩
theorem tb_x {R : List Str} {f : Str → Str → List Str} {v : V} {a dx : Addr} {fs : List (Str × V)} {H H' : Hp} (ha : H a = some (.ins C dx fs)) (s : SmX a H H') (h : Tb R f v H) : Tb R f v H' := by
  obtain ⟨b, tab, rfl, o, kvs, e1, e2⟩ := h
  have t : Tk H H' := s.tk fun xs z => by rw [ha] at z; cases z
  exact ⟨b, tab, rfl, o, kvs, s b _ (fun z => by rw [z, ha] at e1; cases e1) e1, e2.up t⟩
theorem cal_tel_init (D : Mtd K C "__init__" "Telling.__init__" sTelInit) (TC : TelC K C) (N : NetC P w K mg base CN) (Ccheck_like : Cal P w K mg base "check_like" ["old", "new"] 3 (spCheckLike CN)) (Cnext_tables : Cal P w K mg base "next_tables" ["net"] 4 (spNextTables CN)) :
    Mcal P w K mg base C "__init__" ["self", "old", "new"] 5 (spTelInit C CN) := by
  refine D.cal TC.cls scTelInit (fun vs H Q E h => ?_) (fun _ _ _ _ _ _ us hl => match us, hl with | [_, _, _], _ => rfl) (fun f cdv A outer s H vs Q E hr h => ?_)
  · obtain ⟨a, dx, v1, v2, R, ls, ls', rfl, _⟩ := h
    rfl
  · obtain ⟨a, dx, v1, v2, R, ls, ls', rfl, ha, h1, h2, h8, hl, hl', so, k⟩ := h
    have nd := scTelInit.nd
    have T := N
    have hr0 := hr
    have hr := hr.mono (show 2 ≤ 4 by decide)
    have n1 : v1 ≠ .ref a := fun z => by
      obtain ⟨b, dx', fs, vr, vl, rfl, hb, l1, _⟩ := h1
      cases z
      rw [ha] at hb
      cases hb
      cases l1
    have n2 : v2 ≠ .ref a := fun z => by
      obtain ⟨b, dx', fs, vr, vl, rfl, hb, l1, _⟩ := h2
      cases z
      rw [ha] at hb
      cases hb
      cases l1
    refine ⟨_, (pss_cons (ps_expr (pe_cal Ccheck_like (hr0.mono (by decide)) (pa_cons (pv 1) (pa_cons (pv 2) pa_nil))))
 (pss_cons (k_sfld (K := K) (pv 0) (pe_netrouters T (pv 1) hr) rfl)
 (pss_one (ps_asg (pe_tup (pa_cons (pe_cal Cnext_tables (hr0.mono (by decide)) (pa_cons (pv 1) pa_nil)) (pa_cons (pe_cal Cnext_tables (hr0.mono (by decide)) (pa_cons (pv 2) pa_nil)) pa_nil))) (k_tgT (K := K) (n := 2) rfl (pgs_cons (k_gfld (K := K) (pv 0)) (pgs_cons (k_gfld (K := K) (pv 0)) pgs_nil))))))), ?_⟩
    refine s_drop (P := Ex .non) (ev_call (ea_cons (ev_var rfl h1 (stb_net _ _ _)) (stb_net _ _ _) (ea_cons (ev_var rfl h2 (stb_net _ _ _)) (stb_net _ _ _) ea_nil)) ?_) fun _ H1 s1 _ => ?_
    · rintro vs H1 s1 ⟨v, r, rfl, p1, u, r2, rfl, p2, rfl⟩ Q' q'
      exact ⟨v, u, R, ls, ls', rfl, p1, p2, so, fun H2 s2 => q' _ H2 s2 rfl⟩
    have h1' := stb_net _ _ _ _ _ _ s1 h1
    have h2' := stb_net _ _ _ _ _ _ s1 h2
    have ha1 := s1 _ _ ha
    -- self.own_routers
    refine ev_routers (ev_var rfl h1' (stb_net _ _ _)) H1 (Same.refl _) _ fun vr H2 s2 pr => ?_
    have ha2 := s2 _ _ ha1
    refine ⟨.ref a, rfl, a, C, dx, [], rfl, ha2, TC.cls, TC.nr, by show 0 < 1000; decide, ?_⟩
    have x2 : SmX a H2 (upd H2 a (.ins C dx (putF "own_routers" vr []))) := (SmX.refl _).upd
    have e3 : (upd H2 a (.ins C dx (putF "own_routers" vr []))) a = some (.ins C dx [("own_routers", vr)]) := upd_same
    have h1'' := net_x ha2 n1 x2 (stb_net _ _ _ _ _ _ s2 h1')
    have h2'' := net_x ha2 n2 x2 (stb_net _ _ _ _ _ _ s2 h2')
    have pr' := Rp.up pr (x2.tk fun xs z => by rw [ha2] at z; cases z)
    have x02 : SmX a H (upd H2 a (.ins C dx (putF "own_routers" vr []))) := ((SmX.of s1).trans (.of s2)).trans x2
    generalize upd H2 a (.ins C dx (putF "own_routers" vr [])) = H3 at x02 e3 h1'' h2'' pr'
    -- the tables
    have ta : Ev (tCall (spNextTables CN) [] E0 (tCons (tVar 1) tNil)) (L2.start ["self", "old", "new"] [.ref a, v1, v2]) H3 (Tb R (tblF R (lens ls))) := ev_call (ea_cons (ev_var rfl h1'' (stb_net _ _ _)) (stb_net _ _ _) ea_nil) (by
      rintro vs H1 s1 ⟨v, r, rfl, p1, rfl⟩ Q' q'
      exact ⟨v, R, ls, rfl, p1, h8, hl, q'⟩)
    have tb : Ev (tCall (spNextTables CN) [] E0 (tCons (tVar 2) tNil)) (L2.start ["self", "old", "new"] [.ref a, v1, v2]) H3 (Tb R (tblF R (lens ls'))) := ev_call (ea_cons (ev_var rfl h2'' (stb_net _ _ _)) (stb_net _ _ _) ea_nil) (by
      rintro vs H1 s1 ⟨v, r, rfl, p1, rfl⟩ Q' q'
      exact ⟨v, R, ls', rfl, p1, h8, hl', q'⟩)
    refine nx_of ?_
    refine ta H3 (Same.refl _) _ fun vt H4 s4 p4 => tb H4 s4 _ fun vo H5 s5 p5 => ?_
    refine ⟨by show 2 ≤ sizeLine; decide, fun tt htt => ?_⟩
    have s6 := same_new (o := .tup [vt, vo]) htt
    have e6 := s6 _ _ (s5 _ _ (s4 _ _ e3))
    refine ⟨tt, _, rfl, SqT.of upd_same, rfl, vt, [vo], rfl, .ref a, rfl, a, C, dx, _, rfl, e6, TC.cls, TC.nt, by show 1 < 1000; decide, ?_⟩
    refine ⟨vo, [], rfl, .ref a, rfl, a, C, dx, _, rfl, upd_same, TC.cls, TC.no, by show 2 < 1000; decide, rfl, ?_⟩
    have s36 := (s4.trans s5).trans s6
    have x6 : ∀ o1 o2, SmX a H3 (upd (upd (upd H5 tt (.tup [vt, vo])) a o1) a o2) := fun o1 o2 => (((SmX.of s36).upd)).upd
    refine k _ (x02.trans (x6 _ _)) ⟨a, dx, vr, vt, vo, rfl, upd_same, pr'.up ((x6 _ _).tk fun xs z => by rw [e3] at z; cases z), ?_, ?_⟩
    · refine tb_x e6 ((SmX.refl _).upd.upd) (stb_tb _ _ _ _ _ (s5.trans s6) p4)
    · exact tb_x e6 ((SmX.refl _).upd.upd) (stb_tb _ _ _ _ _ s6 p5)
end
end Qt
/-! Qv: rounds_behind, led. -/
namespace Qt
open PySem PySem.Spec PyProof.Rows L2
section
variable {K : PySem.W.Frag} {σ : L2.St} {H H' : Hp} {te tl to ta : TE} {tt : TT} {t : TA} {ds : List PyData} {A P : VP} {Ps : List VP} {C : Addr} {m : Str} {sp : Sp} {D : Ends} {g : TG} {tb : TS}
theorem ev_meth (h : Ev ta σ H A) (st : Stb A) (hA : ∀ v H1, A v H1 → ∃ a dx fs, v = .ref a ∧ H1 a = some (.ins C dx fs) ∧ fs.lookup m = none) (ha : EvA t σ H Ps) (hr : SpV sp (A :: Ps) H P) : Ev (tMeth C m sp [] E0 ta t) σ H P := fun H1 s Q q => h H1 s _ fun v H2 s2 p => by
  obtain ⟨a, dx, fs, rfl, h1, h2⟩ := hA v H2 p
  refine ⟨a, dx, fs, rfl, h1, h2, ha H2 (s.trans s2) _ fun vs H3 s3 p3 => ?_⟩
  rw [List.append_nil]
  exact hr (.ref a :: vs) H3 ((s.trans s2).trans s3) ⟨_, _, rfl, st _ _ _ s3 p, p3⟩ Q fun v H4 s4 p4 => q v H4 ((s2.trans s3).trans s4) p4
def EvTP (tt : TT) (σ : L2.St) (H : Hp) (p : Prop) : Prop := ∀ H1, Same H H1 → ∀ Q : Bool → Hp → Prop, (∀ b H2, Same H1 H2 → (b = true → p) → Q b H2) → tt σ H1 Q
theorem et_testP {p : Prop} (h : Ev te σ H (BoolP p)) : EvTP (tTest te) σ H p := fun H1 s Q q => h H1 s _ fun v H2 s2 ⟨b, e, hp⟩ => ⟨b, e, q b H2 s2 hp⟩
theorem et_andP {tu : TT} {b : Bool} {p q : Prop} (h1 : EvT tt σ H b) (h2 : b = true → EvTP tu σ H p) (hq : b = true → p → q) : EvTP (tAnd tt tu) σ H q := fun H1 s Q k => h1 H1 s _ fun H2 s2 => by
  cases b with
  | true =>
    show tu σ H2 Q
    exact h2 rfl H2 (s.trans s2) Q fun b H3 s3 hp => k b H3 (s2.trans s3) fun e => hq rfl (hp e)
  | false =>
    show Q false H2
    exact k false H2 s2 fun e => by cases e
/-- a fresh list of which Pd is known -/
def FrL (H : Hp) (Pd : List PyData → Prop) : VP := fun v H' => ∃ ds p xs, Pd ds ∧ H p = none ∧ v = .ref p ∧ H' p = some (.lst xs) ∧ RpAll H' xs ds
theorem none_of {a : Addr} (s : Same H H') (h : H' a = none) : H a = none := by
  cases e : H a with
  | none => rfl
  | some u => rw [s a u e] at h; cases h
theorem FrL.mono {Pd : List PyData → Prop} {v : V} {H2 : Hp} (s : Same H H') (h : FrL H' Pd v H2) : FrL H Pd v H2 := by
  obtain ⟨ds, p, xs, h1, h2, h3⟩ := h
  exact ⟨ds, p, xs, h1, none_of s h2, h3⟩
/-- [x for x in l if c], of the test only a word: what is kept passes -/
theorem ev_lcLx {j : Nat} {vs : List Nat} (Pe : PyData → Prop) (h : Ev tl σ H (Ls ds)) (hz : ds.length ≤ 50000) (hw : ∀ v, wipe ((wipe σ vs).set j (some v)) vs = wipe σ vs)
    (turn : ∀ d ∈ ds, ∀ v H1, Same H H1 → Rp H1 v d → EvTP tt ((wipe σ vs).set j (some v)) H1 (Pe d) ∧ Ev te ((wipe σ vs).set j (some v)) H1 (Dd d)) :
    Ev (tLc (iList K tl) (gName j) tt te vs) σ H (FrL H fun es => es.length ≤ ds.length ∧ ∀ e ∈ es, e ∈ ds ∧ Pe e) := fun H0 s0 Q q => h H0 s0 _ fun v H1 s1 p => by
  obtain ⟨a, xs, rfl, h1, h2⟩ := p
  refine ⟨a, rfl, ⟨xs, SqL.of h1⟩, fun D hD => ?_⟩
  refine lc_list (K := K) (a := a) (xs := xs) (fun i H' => H1 D = none ∧ Same H1 H' ∧ ∃ ys es, H' D = some (.lst ys) ∧ RpAll H' ys es ∧ es.length ≤ i ∧ ∀ e ∈ es, e ∈ ds ∧ Pe e) ⟨hD, same_new hD, [], [], upd_same, .nil, Nat.le_refl _, fun _ z => by cases z⟩ (fun i H' _ p => SqL.of (p.2.1 a _ h1)) (fun i x H' hi p => ⟨hw x, ?_⟩) (fun H' p => ?_)
  · obtain ⟨d, hd, rd⟩ := h2.at_ hi
    have hil : i < ds.length := (List.getElem?_eq_some_iff.mp hd).1
    have hm := List.mem_of_getElem? hd
    obtain ⟨p1, p2, ys, es, p3, p4, p5, p6⟩ := p
    obtain ⟨t1, t2⟩ := turn d hm x H' ((s0.trans s1).trans p2) (rd.sm p2)
    refine t1 H' (Same.refl _) _ fun b H3 s3 hb => ?_
    have e3 := s3 _ _ p3
    cases b with
    | false => exact ⟨p1, p2.trans s3, ys, es, e3, p4.sm s3, by omega, p6⟩
    | true =>
      show te _ H3 _
      refine t2 H3 s3 _ fun y H4 s4 py => ?_
      have e4 := s4 _ _ e3
      have tk : Tk H4 (upd H4 D (.lst (ys ++ [y]))) := tk_upd fun xs z => by rw [e4] at z; cases z
      refine ⟨ys, e4, ?_, p1, same_mut ((p2.trans s3).trans s4) p1, ys ++ [y], es ++ [d], upd_same, ((p4.sm (s3.trans s4)).up tk).append (.one (Rp.up py tk)), ?_, fun e he => ?_⟩
      · have := p4.length
        rw [this]
        exact Nat.lt_of_le_of_lt (Nat.le_trans p5 (Nat.le_trans (Nat.le_of_lt hil) hz)) (by decide)
      · rw [List.length_append, List.length_singleton]
        omega
      · rcases List.mem_append.mp he with he | he
        · exact p6 e he
        · rw [List.mem_singleton.mp he]
          exact ⟨hm, hb rfl⟩
  · obtain ⟨p1, p2, ys, es, p3, p4, p5, p6⟩ := p
    rw [h2.length] at p5
    exact q _ H' (s1.trans p2) ⟨es, D, ys, ⟨p5, p6⟩, none_of (s0.trans s1) p1, rfl, p3, p4⟩
/-- over a list of which something is known -/
theorem s_forLq {Pd : List PyData → Addr → Prop} (h : Ev tl σ H (fun v H' => ∃ ds p xs, Pd ds p ∧ v = .ref p ∧ H' p = some (.lst xs) ∧ RpAll H' xs ds)) (Pv : List PyData → Hp → Nat → L2.St → Hp → Prop) (h0 : ∀ ds p H1, Pd ds p → Same H H1 → Pv ds H1 0 σ H1) (ht : ∀ ds H1 i σ' H', Same H H1 → Pv ds H1 i σ' H' → Tk H1 H')
    (hl : ∀ ds H1 p xs i σ' H', Pd ds p → H1 p = some (.lst xs) → Same H H1 → Pv ds H1 i σ' H' → H' p = some (.lst xs))
    (turn : ∀ ds p H1 i d v σ' H', Pd ds p → Same H H1 → ds[i]? = some d → Pv ds H1 i σ' H' → Rp H' v d → g v σ' H' fun σ2 H2 => tb { D with nx := Pv ds H1 (i + 1), ct := Pv ds H1 (i + 1), bk := D.nx } σ2 H2)
    (done : ∀ ds p H1 σ' H', Pd ds p → Same H H1 → Pv ds H1 ds.length σ' H' → D.nx σ' H') : tFor (iList K tl) g tb D σ H := h H (Same.refl _) _ fun v H1 s1 p => by
  obtain ⟨ds, a, xs, hp, rfl, h1, h2⟩ := p
  refine ⟨a, rfl, ⟨xs, SqL.of h1⟩, for_it walk_list (fun i σ' H' => Pv ds H1 i σ' H') (h0 ds a H1 hp s1) (fun i σ' H' _ q => SqL.of (hl ds H1 a xs i σ' H' hp h1 s1 q)) (fun i x σ' H2 H3 hi q y => ?_) (fun σ' H' q => ?_)⟩
  · obtain ⟨rfl, hx⟩ := y
    obtain ⟨d, hd, rd⟩ := h2.at_ hx
    exact turn ds a H1 i d x σ' H3 hp s1 hd q (rd.up (ht ds H1 i σ' H3 s1 q))
  · rw [h2.length] at q
    exact done ds a H1 σ' H' hp s1 q
theorem s_append {L : Addr} {d : PyData} (hl : Ls ds (.ref L) H) (hL : Ev to σ H (Ex (.ref L))) (h : Ev te σ H (Dd d)) (hz : ds.length ≤ 50000) (q : ∀ H1 o, Same H H1 → Tk H1 (upd H1 L o) → Ls (ds ++ [d]) (.ref L) (upd H1 L o) → D.nx σ (upd H1 L o)) : tDrop (tBM K "list" rAppend to (tCons te tNil)) D σ H := hL H (Same.refl _) _ fun v H1 s1 p1 => by
  obtain rfl : v = .ref L := p1
  obtain ⟨p, xs, e, h1, h2⟩ := hl
  cases e
  refine ⟨.inl ⟨rfl, _, SqL.of (s1 _ _ h1)⟩, h H1 s1 _ fun y H2 s2 p2 => ?_⟩
  have e2 := s2 _ _ (s1 _ _ h1)
  have tk : Tk H2 (upd H2 L (.lst (xs ++ [y]))) := tk_upd fun xs z => by rw [e2] at z; cases z
  exact ⟨L, xs, y, rfl, rfl, e2, by rw [h2.length]; exact Nat.lt_of_le_of_lt hz (by decide), q H2 _ (s1.trans s2) tk ⟨L, _, rfl, upd_same, ((h2.sm (s1.trans s2)).up tk).append (.one (Rp.up p2 tk))⟩⟩
end
end Qt
/-! Qw: rounds_behind, led. -/
namespace Qt
open PySem PySem.Spec PyProof.Rows L2
/-! ### the chains -/
def Good (R : List Str) (t o : Str → Str → List Str) (M s : List Str) : Prop := s ≠ [] ∧ s.Sublist R ∧ Snd R t o M s
inductive Chn (R : List Str) (t o : Str → Str → List Str) : List (List Str) → List Str → Prop
  | nil : Chn R t o [] []
  | snoc {ch : List (List Str)} {M s : List Str} : Chn R t o ch M → Good R t o M s → Chn R t o (ch ++ [s]) (tog R M s)
abbrev Fnd := List (List Str × List (List Str))
def chD (c : List (List Str)) : PyData := .tuple (c.map tupS)
def foD (f : Fnd) : List (List Str × PyData) := aemb id chD f
structure FdOk (R : List Str) (t o : Str → Str → List Str) (f : Fnd) : Prop where
  ch : ∀ p ∈ f, Chn R t o p.2 p.1
  nod : (f.map (·.1)).Nodup
  sub : ∀ p ∈ f, p.1.Sublist R
  len : ∀ p ∈ f, p.2.length ≤ f.length
theorem tog_sub (R m s : List Str) : (tog R m s).Sublist R := List.filter_sublist
theorem moms_all' : ∀ (R : List Str) (f : List (List Str)) (m s : List Str), m ∈ f → s.Sublist R → m ++ s ∈ R.foldl momS f
  | [], f, m, s, hm, hs => by
    rw [List.sublist_nil.mp hs, List.append_nil]
    exact hm
  | x :: R, f, m, s, hm, hs => by
    rw [List.foldl_cons]
    cases hs with
    | cons _ h => exact moms_all' R _ m s (List.mem_append_left _ hm) h
    | @cons_cons s' _ _ h =>
      have := moms_all' R (momS f x) (m ++ [x]) s' (List.mem_append_right _ (List.mem_map.mpr ⟨m, hm, rfl⟩)) h
      rw [List.append_assoc] at this
      exact this
theorem moms_all {R s : List Str} (h : s.Sublist R) : s ∈ moms R := moms_all' R [[]] [] s (List.mem_singleton.mpr rfl) h
theorem nodup_leG {α : Type} [BEq α] [LawfulBEq α] {xs ys : List α} (n : xs.Nodup) (h : ∀ x ∈ xs, x ∈ ys) : xs.length ≤ ys.length := by
  induction xs generalizing ys with
  | nil => exact Nat.zero_le _
  | cons x xs ih =>
    rw [List.nodup_cons] at n
    have hx := h x List.mem_cons_self
    have := ih n.2 (ys := ys.erase x) fun y hy => by
      refine (List.mem_erase_of_ne ?_).mpr (h y (List.mem_cons_of_mem _ hy))
      intro e
      subst e
      exact n.1 hy
    rw [List.length_erase_of_mem hx] at this
    have := List.length_pos_of_mem hx
    rw [List.length_cons]
    omega
theorem FdOk.few {R : List Str} {t o : Str → Str → List Str} {f : Fnd} (h : FdOk R t o f) (h8 : R.length ≤ 10) : f.length ≤ 1024 := by
  have h1 := nodup_leG (ys := moms R) h.nod fun x hx => by
    obtain ⟨p, hp, rfl⟩ := List.mem_map.mp hx
    exact moms_all (h.sub p hp)
  rw [List.length_map] at h1
  have h2 : (moms R).length = 2 ^ R.length := by
    unfold moms
    rw [moms_len]
    exact Nat.one_mul _
  rw [h2] at h1
  exact Nat.le_trans h1 (Nat.le_trans (Nat.pow_le_pow_right (by decide) h8) (by decide))
theorem fd0 (R : List Str) (t o : Str → Str → List Str) : FdOk R t o [([], [])] where
  ch := fun p hp => by
    rw [List.mem_singleton.mp hp]
    exact .nil
  nod := by simp
  sub := fun p hp => by
    rw [List.mem_singleton.mp hp]
    exact List.nil_sublist _
  len := fun p hp => by
    rw [List.mem_singleton.mp hp]
    exact Nat.zero_le _
theorem FdOk.put {R : List Str} {t o : Str → Str → List Str} {f : Fnd} {M s : List Str} {ch : List (List Str)} (h : FdOk R t o f) (hm : (M, ch) ∈ f) (hs : Good R t o M s) (hn : ∀ p ∈ f, p.1 ≠ tog R M s) : FdOk R t o (f ++ [(tog R M s, ch ++ [s])]) where
  ch := fun p hp => by
    rcases List.mem_append.mp hp with hp | hp
    · exact h.ch p hp
    · rw [List.mem_singleton.mp hp]
      exact .snoc (h.ch _ hm) hs
  nod := by
    rw [List.map_append]
    refine List.nodup_append.mpr ⟨h.nod, by simp, fun a ha b hb e => ?_⟩
    obtain ⟨p, hp, rfl⟩ := List.mem_map.mp ha
    rw [List.map_cons, List.map_nil, List.mem_singleton] at hb
    exact hn p hp (e.trans hb)
  sub := fun p hp => by
    rcases List.mem_append.mp hp with hp | hp
    · exact h.sub p hp
    · rw [List.mem_singleton.mp hp]
      exact tog_sub _ _ _
  len := fun p hp => by
    rw [List.length_append, List.length_singleton]
    rcases List.mem_append.mp hp with hp | hp
    · have := h.len p hp
      omega
    · rw [List.mem_singleton.mp hp, List.length_append, List.length_singleton]
      have : ch.length ≤ f.length := h.len _ hm
      omega
theorem aemb_al {f : Fnd} (k : List Str) : al (foD f) k = (al f k).map chD := al_emb (φ := id) (fun _ _ h => h) _ _ _
theorem foD_put {f : Fnd} {k : List Str} {c : List (List Str)} (h : al f k = none) : aput (foD f) k (chD c) = foD (f ++ [(k, c)]) := by
  unfold aput
  rw [aemb_al, h]
  show (if false = true then _ else _) = _
  rw [if_neg (by decide)]
  unfold foD aemb
  rw [List.map_append] <;> rfl
theorem tupS_inj {a b : List Str} (h : tupS a = tupS b) : a = b := by
  have e : decide (a = b) = PyData.eqv (tupS a) (tupS b) := (eqv_tupS a b).symm
  rw [h, eqv_tupS, decide_eq_true rfl] at e
  exact of_decide_eq_true e
theorem shaped_lstT {l : List (List Str)} (h : ∀ m ∈ l, ∀ x ∈ m, PyData.strOk x = true) : SeqAt.shaped (.list (l.map tupS)) = true := by
  unfold SeqAt.shaped
  rw [Bool.and_eq_true]
  have h1 : ∀ l : List (List Str), (∀ m ∈ l, ∀ x ∈ m, PyData.strOk x = true) → PyData.canLayAll0 (l.map tupS) = true := fun l => by
    induction l with
    | nil => exact fun _ => rfl
    | cons m l ih =>
      intro h
      have e1 := ih fun m hm => h m (List.mem_cons_of_mem _ hm)
      have e2 := lay_strs m (h m List.mem_cons_self)
      rw [List.map_cons]
      simp only [PyData.canLayAll0, tupS, PyData.canLay0, Bool.and_eq_true]
      exact ⟨e2, e1⟩
  have h2 : ∀ l : List (List Str), PyData.depthAll (l.map tupS) ≤ 1 := fun l => by
    induction l with
    | nil => exact Nat.zero_le _
    | cons m l ih =>
      rw [List.map_cons]
      have e2 := depth_strs m
      simp only [PyData.depthAll, tupS, PyData.depth, e2]
      omega
  have h3 : (PyData.list (l.map tupS)).depth ≤ 64 := by
    have := h2 l
    simp only [PyData.depth]
    omega
  exact ⟨by simp only [PyData.canLay0]; exact h1 l h, decide_eq_true h3⟩
theorem eqv_lstT0 (l : List (List Str)) : PyData.eqv (.list (l.map tupS)) (.list []) = decide (l = []) := by
  cases l with
  | nil => rfl
  | cons m l => rfl
section
variable {P : Program} {w : World} {K : PySem.W.Frag} {mg : Str → Option Value} {base : Heap} {C CN : Addr}
abbrev sRB : Stmt := tel 2
theorem scRB : FnScope ["self", "moment", "left", "some", "router"] ["self", "moment"] (defScope sRB) := ⟨rfl, rfl, rfl, by decide +kernel, rfl, by decide +kernel, by decide +kernel⟩
def spRB (C : Addr) : Sp := fun vs H Q _ => ∃ (v1 v2 : V) (R M : List Str) (t o : Str → Str → List Str), vs = [v1, v2] ∧ TelD C R t o v1 H ∧ Rp H v2 (tupS M) ∧ R.length ≤ 10 ∧ (∀ x ∈ R, PyData.strOk x = true) ∧ ∀ v H', Same H H' → FrL H (fun es => ∃ ss : List (List Str), es = ss.map tupS ∧ ∀ s ∈ ss, Good R t o M s) v H' → Q v H'
theorem tups_of {l : List (List Str)} {p : List Str → Prop} : ∀ {es : List PyData}, (∀ e ∈ es, e ∈ l.map tupS ∧ ∀ s, e = tupS s → p s) → ∃ ss : List (List Str), es = ss.map tupS ∧ ∀ s ∈ ss, s ∈ l ∧ p s
  | [], _ => ⟨[], rfl, fun _ h => by cases h⟩
  | e :: es, h => by
    obtain ⟨ss, e1, h1⟩ := tups_of (l := l) (p := p) (es := es) fun x hx => h x (List.mem_cons_of_mem _ hx)
    obtain ⟨h2, h3⟩ := h e List.mem_cons_self
    obtain ⟨s, hs, rfl⟩ := List.mem_map.mp h2
    refine ⟨s :: ss, by rw [List.map_cons, e1], fun x hx => ?_⟩
    rcases List.mem_cons.mp hx with rfl | hx
    · exact ⟨hs, h3 _ rfl⟩
    · exact h1 x hx
theorem cal_rb (D : Mtd K C "rounds_behind" "Telling.rounds_behind" sRB) (T : TelC K C) (G : Gc mg) (Cmoments_of : Cal P w K mg base "moments_of" ["routers"] 1 spMomentsOf) (Cis_sound : Mcal P w K mg base C "is_sound" ["self", "moment", "some"] 4 (spIsSound C)) :
    Mcal P w K mg base C "rounds_behind" ["self", "moment"] 5 (spRB C) := by
  refine D.cal T.cls scRB (fun vs H Q E h => ?_) (fun _ _ _ _ _ _ us hl => match us, hl with | [_, _], _ => rfl) (fun f cdv A outer s H vs Q E hr h => ?_)
  · obtain ⟨v1, v2, R, M, t, o, rfl, _⟩ := h
    rfl
  · obtain ⟨v1, v2, R, M, t, o, rfl, h1, h2, h8, so, k⟩ := h
    have nd := scRB.nd
    have TC := T
    have T := G
    refine ⟨_, (pss_cons (ps_set (i := 2) nd rfl (Or.inl rfl) (pe_callTy (k_tup (K := K)) (by rfl) T.b.tuple (by decide +kernel) (pa_cons (pe_lc (own := [("router", 4)]) rfl nd (k_piT (K := K) (k_fld (K := K) (pv 0))) (blkOk_by (by kernel_rfl)) (fun _ _ _ _ _ => (pg_name (i := 4) nd rfl (Or.inl rfl))) (fun _ _ _ _ _ => (pts_one (pt_cmpR (k_notIn (K := K)) (pv 4) (pv 1) rfl))) (fun _ _ _ _ _ => (pv 4))) pa_nil)))
 (pss_one (ps_ret (pe_lc (own := [("some", 3)]) rfl nd (k_piL (K := K) (pe_cal Cmoments_of (hr.mono (by decide)) (pa_cons (pv 2) pa_nil))) (blkOk_by (by kernel_rfl)) (fun _ _ _ _ _ => (pg_name (i := 3) nd rfl (Or.inl rfl))) (fun _ _ _ _ _ => (pts_one (PW.pt (pw_and (pt_cmpR (k_neD (K := K) hr.units) (pv 3) (pe_tup pa_nil) (nomark _)) (pw_and1 (pt_val (pe_mcal Cis_sound (pv 0) (hr.mono (by decide)) (pa_cons (pv 1) (pa_cons (pv 3) pa_nil))))))))) (fun _ _ _ _ _ => (pv 3)))))), ?_⟩
    refine s_set (P := Dd (tupS (R.filter fun x => !decide (x ∈ M)))) (ev_tupL (ev_lcTS (fun x => !decide (x ∈ M)) PyData.str (ev_telR TC (ev_var rfl h1 (stb_tel _ _ _ _))) (by omega) (fun _ => rfl) fun x hx H1 s1 => ⟨et_test (ev_notInT (ev_varS rfl) (ev_varD rfl (h2.sm s1))), fun _ => ev_varS rfl⟩)) fun vl H1 s1 p1 => ?_
    refine nx_of ?_
    have hsub : (R.filter fun x => !decide (x ∈ M)).Sublist R := List.filter_sublist
    generalize (R.filter fun x => !decide (x ∈ M)) = L at p1 hsub
    have hL := hsub.length_le
    have h1' := stb_tel _ _ _ _ _ _ _ s1 h1
    have h2' := h2.sm s1
    have hml : (moms L).length ≤ 1024 := by
      unfold moms
      rw [moms_len, List.length_singleton, Nat.one_mul]
      exact Nat.le_trans (Nat.pow_le_pow_right (by decide) (Nat.le_trans hL h8)) (by decide)
    refine s_ret (P := FrL H1 fun es => es.length ≤ ((moms L).map tupS).length ∧ ∀ e ∈ es, e ∈ (moms L).map tupS ∧ ∀ s, e = tupS s → s ≠ [] ∧ Snd R t o M s) (ev_lcLx (fun e => ∀ s, e = tupS s → s ≠ [] ∧ Snd R t o M s) (ev_call (ea_d (ev_varD rfl p1) ea_nil) ?_) (by rw [List.length_map]; omega) (fun _ => rfl) fun d hd v H2 s2 r2 => ⟨?_, ev_varD rfl r2⟩) fun v H2 s2 p2 => ?_
    · rintro vs H2 s2 ⟨v, r, rfl, p1, rfl⟩ Q' q'
      exact ⟨v, L, rfl, p1, by omega, q'⟩
    · obtain ⟨s', hs', rfl⟩ := List.mem_map.mp hd
      have hsL := (moms_sub L s' hs').trans hsub
      refine et_andP (b := !decide (s' = [])) (p := Snd R t o M s') (et_test (ev_is (ev_neD (ev_varD rfl r2) (stb_d _) (ev_tup (ds := []) ea_nil (by simp)) (fun _ _ p => Rp.dp _ _ p) (fun _ _ p => Rp.dp _ _ p) (shaped_tupS fun x hx => so x (hsL.subset hx)) (by rfl)) (by rw [show PyData.tuple [] = tupS [] from rfl, eqv_tupS]))) (fun _ => ?_) fun e1 e2 s e => ?_
      · refine et_testP (ev_meth (ev_var rfl (stb_tel _ _ _ _ _ _ _ s2 h1') (stb_tel _ _ _ _)) (stb_tel _ _ _ _) (fun v H1 ⟨a, dx, vr, vt, vo, e, h, _⟩ => ⟨a, dx, _, e, h, rfl⟩) (ea_d (ev_varD rfl (h2'.sm s2)) (ea_d (ev_varD rfl r2) ea_nil)) ?_)
        rintro vs H3 s3 ⟨v, r, rfl, p1, u, r2, rfl, p2, w', r3, rfl, p3, rfl⟩ Q' q'
        exact ⟨v, u, w', R, M, s', t, o, rfl, p1, p2, p3, h8, so, q'⟩
      · have : s' = s := tupS_inj e
        subst this
        exact ⟨by simpa using e1, e2⟩
    · refine k v H2 (s1.trans s2) ?_
      obtain ⟨ds, p, xs, ⟨_, q1⟩, q2, q3, q4, q5⟩ := p2.mono s1
      obtain ⟨ss, rfl, hss⟩ := tups_of q1
      exact ⟨_, p, xs, ⟨ss, rfl, fun s hs => ⟨(hss s hs).2.1, (moms_sub L s (hss s hs).1).trans hsub, (hss s hs).2.2⟩⟩, q2, q3, q4, q5⟩
end
end Qt
/-! Qx: led. -/
namespace Qt
open PySem PySem.Spec PyProof.Rows L2
def Sm2 (F L : Addr) (H H' : Hp) : Prop := ∀ a u, a ≠ F → a ≠ L → H a = some u → H' a = some u
theorem Sm2.refl {F L : Addr} (H : Hp) : Sm2 F L H H := fun _ _ _ _ h => h
theorem Sm2.of {F L : Addr} {H0 H H' : Hp} (a : Sm2 F L H0 H) (s : Same H H') : Sm2 F L H0 H' := fun c u n m h => s c u (a c u n m h)
theorem Sm2.upF {F L : Addr} {H H' : Hp} {o : HO} (s : Sm2 F L H H') : Sm2 F L H (upd H' F o) := fun a u n m h => by
  rw [upd_ne n]
  exact s a u n m h
theorem Sm2.upL {F L : Addr} {H H' : Hp} {o : HO} (s : Sm2 F L H H') : Sm2 F L H (upd H' L o) := fun a u n m h => by
  rw [upd_ne m]
  exact s a u n m h
theorem same_upd {H H' : Hp} {F : Addr} {o : HO} (n : H F = none) (s : Same H H') : Same H (upd H' F o) := fun a u h => by
  rw [upd_ne (ne_of_none h n)]
  exact s a u h
theorem ls_ne {F L : Addr} {H : Hp} {l : List (List Str × PyData)} {ds : List PyData} (h : DT H F l) (g : Ls ds (.ref L) H) : F ≠ L := fun z => by
  obtain ⟨kvs, e, _⟩ := h
  obtain ⟨p, xs, e1, e2, _⟩ := g
  cases e1
  rw [z, e2] at e
  cases e
theorem ls_tup {H : Hp} {a : Addr} {l : List PyData} (h : Ls l (.ref a) H) : ∀ xs, H a ≠ some (.tup xs) := fun xs z => by
  obtain ⟨p, ys, e, h1, _⟩ := h
  cases e
  rw [h1] at z
  cases z
theorem ls_updD {H : Hp} {F L : Addr} {ds : List PyData} {l : List (List Str × PyData)} {o : HO} (k : DT H F l) (h : Ls ds (.ref L) H) : Ls ds (.ref L) (upd H F o) := by
  have n := ls_ne k h
  have t := tk_dT (o := o) k
  obtain ⟨p, xs, e, h1, h2⟩ := h
  cases e
  exact ⟨L, xs, rfl, by rw [upd_ne (Ne.symm n)]; exact h1, h2.up t⟩
theorem dt_updL {H : Hp} {F L : Addr} {ds : List PyData} {l : List (List Str × PyData)} {o : HO} (k : DT H F l) (h : Ls ds (.ref L) H) : DT (upd H L o) F l := by
  have n := ls_ne k h
  have t : Tk H (upd H L o) := tk_upd (ls_tup h)
  obtain ⟨kvs, e, h2⟩ := k
  exact ⟨kvs, by rw [upd_ne n]; exact e, h2.up t⟩
/-- {k: v} and [] fresh -/
theorem ev_disp0 {σ : L2.St} {H : Hp} {tkx tv : TE} {k : List Str} {d : PyData} (hk : ∀ H1, Same H H1 → Ev tkx σ H1 (Dd (tupS k))) (hv : ∀ H1, Same H H1 → Ev tv σ H1 (Dd d)) : Ev (tDispT1 tkx tv) σ H (fun v H' => ∃ p, v = .ref p ∧ H p = none ∧ DT H' p [(k, d)]) := fun H1 s Q q p hp => by
  have s1 : Same H1 (upd H1 p (.dT [])) := same_new hp
  refine hk _ (s.trans s1) _ (Same.refl _) _ fun x H2 s2 p2 => hv H2 ((s.trans s1).trans s2) H2 (Same.refl _) _ fun y H3 s3 p3 => ?_
  obtain ⟨b, rfl, hb⟩ := rp_tupS (p2.sm s3)
  have e3 := (s2.trans s3) _ _ (show upd H1 p (.dT []) p = some (.dT []) from upd_same)
  have tk3 : ∀ o, Tk H3 (upd H3 p o) := fun o => tk_upd fun xs z => by rw [e3] at z; cases z
  refine ⟨b, tk k, rfl, by rw [tk_kV]; exact hb, e3, q _ _ ?_ ⟨p, rfl, none_of s hp, _, upd_same, .cons (p3.up (tk3 _)) .nil⟩⟩
  exact same_upd hp (s1.trans (s2.trans s3))
theorem ev_lst0 {σ : L2.St} {H : Hp} : Ev (tLst tNil) σ H (fun v H' => ∃ p, v = .ref p ∧ H p = none ∧ Ls [] v H') := fun H1 s Q q => ⟨by show 0 ≤ sizeLine; decide, fun p hp => q _ _ (same_new hp) ⟨p, rfl, none_of s hp, p, [], rfl, upd_same, .nil⟩⟩
theorem s_par {i j : Nat} {A B : VP} {ta : TA} {D : Ends} {σ : L2.St} {H : Hp} (h : EvA ta σ H [A, B]) (k : ∀ v w H1, Same H H1 → A v H1 → B w H1 → D.nx ((σ.set i (some v)).set j (some w)) H1) : tPar i j ta D σ H := h H (Same.refl _) _ fun vs H1 s1 p => by
  obtain ⟨v, r, rfl, p1, w, r2, rfl, p2, rfl⟩ := p
  exact ⟨v, w, rfl, k v w H1 s1 p1 p2⟩
/-- the loops' word -/
structure LI (R : List Str) (t o : Str → Str → List Str) (H0 : Hp) (F L : Addr) (f : Fnd) (H2 H' : Hp) (f' : Fnd) (la : List (List Str)) : Prop where
  s0 : Same H0 H'
  s2 : Sm2 F L H2 H'
  tk : Tk H2 H'
  dt : DT H' F (foD f')
  ls : Ls (la.map tupS) (.ref L) H'
  ok : FdOk R t o f'
  ext : ∀ p ∈ f, p ∈ f'
  key : ∀ M ∈ la, ∃ ch, (M, ch) ∈ f'
  len : f'.length = f.length + la.length
def LedR (R : List Str) (t o : Str → Str → List Str) : VP := fun v H => ∃ a f, v = .ref a ∧ DT H a (foD f) ∧ FdOk R t o f
section
variable {P : Program} {w : World} {K : PySem.W.Frag} {mg : Str → Option Value} {base : Heap} {C CN : Addr}
abbrev sLed : Stmt := tel 3
theorem scLed : FnScope ["self", "found", "level", "later", "moment", "some", "behind"] ["self"] (defScope sLed) := ⟨rfl, rfl, rfl, by decide +kernel, rfl, by decide +kernel, by decide +kernel⟩
def spLed (C : Addr) : Sp := fun vs H Q _ => ∃ (v1 : V) (R : List Str) (t o : Str → Str → List Str), vs = [v1] ∧ TelD C R t o v1 H ∧ R.length ≤ 10 ∧ (∀ x ∈ R, PyData.strOk x = true) ∧ ∀ v H', Same H H' → LedR R t o v H' → Q v H'
theorem cal_led (D : Mtd K C "led" "Telling.led" sLed) (T : TelC K C) (G : Gc mg) (Ctogether : Cal P w K mg base "together" ["routers", "moment", "some"] 1 spTogether) (Crounds_behind : Mcal P w K mg base C "rounds_behind" ["self", "moment"] 5 (spRB C)) :
    Mcal P w K mg base C "led" ["self"] 6 (spLed C) := by
  refine D.cal T.cls scLed (fun vs H Q E h => ?_) (fun _ _ _ _ _ _ us hl => match us, hl with | [_], _ => rfl) (fun f cdv A outer s H vs Q E hr h => ?_)
  · obtain ⟨v1, R, t, o, rfl, _⟩ := h
    rfl
  · obtain ⟨v1, R, t, o, rfl, h1, h8, so, k⟩ := h
    have nd := scLed.nd
    have hu := hu_of hr
    have TC := T
    have T := G
    refine ⟨_, (pss_cons (ps_par (i := 1) (j := 2) rfl nd rfl rfl (by decide) rfl rfl (pa_cons (pe_dispT1 hu (pe_tup pa_nil) (pe_tup pa_nil)) (pa_cons (pe_lst (pa_cons (pe_tup pa_nil) pa_nil)) pa_nil)) (by rfl))
 (pss_cons (ps_while PassesOwn.never (PW.pt (pw_and (pt_cmpR (k_neD (K := K) hr.units) (pv 2) (pe_lst pa_nil) (nomark _)) (pw_and1 (pt_cmp (pc_dnotin hu (k_fld (K := K) (pv 0)) (pv 1)))))) (pss_cons (ps_set (i := 3) nd rfl (Or.inl rfl) (pe_lst pa_nil))
 (pss_cons (ps_for PassesOwn.never rfl (k_piL (K := K) (pv 2)) (pg_name (i := 4) nd rfl (Or.inl rfl))
 (pss_one (ps_for PassesOwn.never rfl (k_piL (K := K) (pe_mcal Crounds_behind (pv 0) (hr.mono (by decide)) (pa_cons (pv 4) pa_nil))) (pg_name (i := 5) nd rfl (Or.inl rfl))
 (pss_cons (ps_set (i := 6) nd rfl (Or.inl rfl) (pe_cal Ctogether (hr.mono (by decide)) (pa_cons (k_fld (K := K) (pv 0)) (pa_cons (pv 4) (pa_cons (pv 5) pa_nil)))))
 (pss_one (ps_if (pt_cmp (pc_dnotin hu (pv 6) (pv 1))) (pss_cons (ps_dput hu (pv 1) (pv 6) (pe_tup (k_star (K := K) (pe_dget hu (pv 1) (pv 4) (fun _ _ => rfl)) (pa_cons (pv 5) pa_nil))) rfl)
 (pss_one (ps_expr (k_append (K := K) (pv 3) (pv 6))))) pss_nil))))))
 (pss_one (ps_set (i := 2) nd rfl (Or.inl rfl) (pv 3))))))
 (pss_one (ps_ret (pv 1))))), ?_⟩
    refine s_par (A := fun v H' => ∃ p, v = .ref p ∧ H p = none ∧ DT H' p [([], chD [])]) (B := Ls [tupS []]) (ea_cons (ev_disp0 (k := []) (d := chD []) (fun H1 s1 => ev_tup (ds := []) ea_nil (by simp)) (fun H1 s1 => ev_tup (ds := []) ea_nil (by simp))) (fun v Ha Hb s ⟨p, e, n, h⟩ => ⟨p, e, n, h.sm s⟩) (ea_cons (ev_lst (ds := [tupS []]) (ea_d (ev_tup (ds := []) ea_nil (by simp)) ea_nil) (by simp)) (stb_l _) ea_nil)) fun vF vl H2 s2 pF pl => ?_
    obtain ⟨F, rfl, hF, dF⟩ := pF
    refine nx_of ?_
    refine s_while (W := fun m σ' H' => ∃ vl lv f a b c d, σ' = [some v1, some (.ref F), some vl, a, b, c, d] ∧ Same H H' ∧ DT H' F (foD f) ∧ Ls (lv.map tupS) vl H' ∧ FdOk R t o f ∧ (∀ M ∈ lv, ∃ ch, (M, ch) ∈ f) ∧ m = 2 * (1024 - f.length) + (if lv = [] then 0 else 1)) _
      ⟨vl, [[]], [([], [])], _, _, _, _, rfl, s2, dF, pl, fd0 R t o, fun M hM => ⟨[], by rw [List.mem_singleton.mp hM]; exact List.mem_singleton.mpr rfl⟩, rfl⟩ ?_
    rintro m σ' H' ⟨vl, lv, f, a, b, c, d, rfl, s0, dt, ll, ok, keys, rfl⟩
    have lso : ∀ m ∈ lv, ∀ x ∈ m, PyData.strOk x = true := fun M hM x hx => by
      obtain ⟨ch, hc⟩ := keys M hM
      exact so x ((ok.sub _ hc).subset hx)
    refine ⟨!decide (lv = []) && !(al (foD f) R).isSome, et_and (et_test (ev_is (ev_neD (ev_var rfl ll (stb_l _)) (stb_l _) (ev_lst (ds := []) ea_nil (by simp)) (fun _ _ p => dp_ls p) (fun _ _ p => dp_ls p) (shaped_lstT lso) (by rfl)) (by rw [eqv_lstT0]))) (fun _ => et_test (ev_dnotT (ev_telR TC (ev_var rfl (stb_tel _ _ _ _ _ _ _ s0 h1) (stb_tel _ _ _ _))) (ev_var rfl dt.dt (stb_dt _)))), fun e H1 sa => ?_, fun e H1 sa => ?_⟩
    · have hne : lv ≠ [] := by
        intro z
        rw [z] at e
        cases e
      -- later = []
      refine s_set (P := fun v Hx => ∃ p, v = .ref p ∧ H1 p = none ∧ Ls [] v Hx) ev_lst0 fun v2 H2 sb p2 => ?_
      obtain ⟨L, rfl, hL, lL⟩ := p2
      refine nx_of ?_
      have sab := sa.trans sb
      have dt2 := dt.sm sab
      have ll2 := stb_l _ _ _ _ sab ll
      have hL' : H' L = none := none_of sa hL
      have vlL : vl ≠ .ref L := fun z => by
        obtain ⟨p, xs, e1, e2, _⟩ := ll
        rw [z] at e1
        cases e1
        rw [hL'] at e2
        cases e2
      refine s_forLq (Pd := fun ds p => ds = lv.map tupS ∧ vl = .ref p) (fun Hx sx Q q => ⟨vl, rfl, ?_⟩) (fun ds H3 i σ'' H'' => ∃ f' la b c d, σ'' = [some v1, some (.ref F), some vl, some (.ref L), b, c, d] ∧ LI R t o H F L f H3 H'' f' la)
        (fun ds p H3 _ s3 => ⟨f, [], b, c, d, rfl, ⟨(s0.trans sab).trans s3, .refl _, tk_same (Same.refl _), dt2.sm s3, stb_l _ _ _ _ s3 lL, ok, fun _ h => h, (fun _ h => by cases h), rfl⟩⟩) (fun ds H3 i σ'' H'' s3 ⟨f', la, b, c, d, _, li⟩ => li.tk) (fun ds H3 p xs i σ'' H'' hp h3 s3 ⟨f', la, b, c, d, _, li⟩ => li.s2 p _ (fun z => ?_) (fun z => vlL (by rw [hp.2, z])) h3) ?_ ?_
      · obtain ⟨p, xs, e1, e2, e3⟩ := stb_l _ _ _ _ sx ll2
        exact q vl Hx (Same.refl _) ⟨_, p, xs, ⟨rfl, e1⟩, e1, e2, e3⟩
      · obtain ⟨kvs, e1, _⟩ := dt2.sm s3
        rw [z, e1] at h3
        cases h3
      · rintro ds p H3 i d0 v σ'' H'' ⟨rfl, _⟩ s3 hd ⟨f', la, b, c, d, rfl, li⟩ rv
        rw [List.getElem?_map] at hd
        cases hk : lv[i]? with
        | none => rw [hk] at hd; cases hd
        | some M =>
          rw [hk] at hd
          cases hd
          obtain ⟨ch, hch⟩ := keys M (List.mem_of_getElem? hk)
          -- for some in rounds_behind(moment)
          refine s_forLq (Pd := fun ds p => H'' p = none ∧ ∃ ss : List (List Str), ds = ss.map tupS ∧ ∀ s ∈ ss, Good R t o M s) (fun Hx sx Q q => ?_) (fun ds H4 j σ3 H5 => ∃ f2 la2 c d, σ3 = [some v1, some (.ref F), some vl, some (.ref L), some v, c, d] ∧ LI R t o H F L f H4 H5 f2 la2 ∧ Sm2 F L H3 H5 ∧ Tk H3 H5)
            (fun ds p H4 hp s4 => ⟨f', la, c, d, rfl, ⟨li.s0.trans s4, .refl _, tk_same (Same.refl _), li.dt.sm s4, stb_l _ _ _ _ s4 li.ls, li.ok, li.ext, li.key, li.len⟩, li.s2.of s4, li.tk.trans (tk_same s4)⟩) (fun ds H4 j σ3 H5 s4 ⟨f2, la2, c, d, _, li2, _⟩ => li2.tk) (fun ds H4 p xs j σ3 H5 hp h4 s4 ⟨f2, la2, c, d, _, li2, _⟩ => li2.s2 p _ (fun z => ?_) (fun z => ?_) h4) ?_ ?_
          · refine ev_meth (A := TelD C R t o) (P := FrL H'' fun es => ∃ ss : List (List Str), es = ss.map tupS ∧ ∀ s ∈ ss, Good R t o M s) (H := H'') (ev_var rfl (stb_tel _ _ _ _ _ _ _ li.s0 h1) (stb_tel _ _ _ _)) (stb_tel _ _ _ _) (fun v H1 ⟨a, dx, vr, vt, vo, e, h, _⟩ => ⟨a, dx, _, e, h, rfl⟩) (ea_d (ev_varD rfl rv) ea_nil) ?_ Hx sx Q fun v5 H5 s5 p5 => ?_
            · rintro vs H3 s3 ⟨v, r, rfl, p1, u, r2, rfl, p2, rfl⟩ Q' q'
              exact ⟨v, u, R, M, t, o, rfl, p1, p2, h8, so, fun v5 H5 s5 p5 => q' v5 H5 s5 (p5.mono s3)⟩
            · obtain ⟨ds, p, xs, q1, q2, q3, q4, q5⟩ := p5
              exact q v5 H5 s5 ⟨ds, p, xs, ⟨q2, q1⟩, q3, q4, q5⟩
          · obtain ⟨kvs, e1, _⟩ := li.dt
            rw [z] at hp
            rw [hp.1] at e1
            cases e1
          · obtain ⟨p', xs', e0, e1, _⟩ := li.ls
            cases e0
            rw [z] at hp
            rw [hp.1] at e1
            cases e1
          · rintro ds p H4 j d1 v4 σ3 H5 ⟨hp, ss, rfl, hss⟩ s4 hd ⟨f2, la2, c, d, rfl, li2, y1, y2⟩ rv4
            rw [List.getElem?_map] at hd
            cases hk2 : ss[j]? with
            | none => rw [hk2] at hd; cases hd
            | some s' =>
              rw [hk2] at hd
              cases hd
              have hs' := hss s' (List.mem_of_getElem? hk2)
              have hvM : Rp H5 v (tupS M) := (rv.sm s4).up li2.tk
              -- behind
              refine s_set (P := Dd (tupS (tog R M s'))) (ev_call (ea_d (ev_telR TC (ev_var rfl (stb_tel _ _ _ _ _ _ _ li2.s0 h1) (stb_tel _ _ _ _))) (ea_d (ev_varD rfl hvM) (ea_d (ev_varD rfl rv4) ea_nil))) ?_) fun vb H6 s6 p6 => ?_
              · rintro vs H1 s1 ⟨v, r, rfl, p1, u, r2, rfl, p2, w', r3, rfl, p3, rfl⟩ Q' q'
                exact ⟨v, u, w', R, M, s', rfl, p1, p2, p3, by omega, q'⟩
              refine nx_of ?_
              refine s_if (et_test (ev_dnotT (ev_varD rfl p6) (ev_var rfl (li2.dt.sm s6).dt (stb_dt _)))) (fun en H7 s7 => ?_) (fun _ H7 s7 => ?_)
              · have hnone : al f2 (tog R M s') = none := by
                  rw [aemb_al] at en
                  cases hq : al f2 (tog R M s') with
                  | none => rfl
                  | some x => rw [hq] at en; cases en
                have s67 := s6.trans s7
                have hM2 : (M, ch) ∈ f2 := li2.ext _ hch
                have few := li2.ok.few h8
                have clen : ch.length ≤ f2.length := li2.ok.len _ hM2
                -- found[behind] = (*found[moment], some)
                have ed : chD (ch ++ [s']) = .tuple (ch.map tupS ++ [tupS s']) := by
                  unfold chD
                  rw [List.map_append] <;> rfl
                refine s_dputT (k := tog R M s') (d := chD (ch ++ [s'])) (by
                  rw [ed]
                  refine ev_tup (ds := ch.map tupS ++ [tupS s']) (ea_starT (es := [tupS s']) (ev_dgetT (k := M) (ev_var rfl (li2.dt.sm s67).dt (stb_dt _)) (ev_varD rfl (hvM.sm s67)) (by rw [aemb_al, al_of_mem li2.ok.nod hM2] <;> rfl)) (ea_d (ev_varD rfl (rv4.sm s67)) ea_nil)) (by rw [List.length_append, List.length_map, List.length_singleton]; omega)) (ev_varX rfl) (ev_varD rfl (p6.sm s7)) (li2.dt.sm s67) (by unfold foD aemb; rw [List.length_map]; omega) fun H8 ob s8 dt8 => ?_
                rw [foD_put hnone] at dt8
                have dtp := (li2.dt.sm (s67.trans s8))
                have lsp := stb_l _ _ _ _ (s67.trans s8) li2.ls
                have ls8 := ls_updD (o := ob) dtp lsp
                have tk8 : Tk H5 (upd H8 F ob) := (tk_same (s67.trans s8)).trans (tk_dT dtp)
                have lab : la2.length ≤ 1024 := by have := li2.len; omega
                refine nx_of ?_
                refine s_append (d := tupS (tog R M s')) ls8 (ev_varX rfl) (ev_varD rfl (Rp.up (p6.sm (s7.trans s8)) (tk_dT dtp))) (by rw [List.length_map]; omega) fun H9 o2 s9 tk9 ls9 => ?_
                have n9 : F ≠ L := ls_ne dt8 ls8
                have dt9 := dt_updL (o := o2) (dt8.sm s9) (stb_l _ _ _ _ s9 ls8)
                have ss9 : ∀ H0, Sm2 F L H0 H5 → Sm2 F L H0 (upd H9 L o2) := fun H0 z => (((z.of (s67.trans s8)).upF (o := ob)).of s9).upL
                have tk59 : Tk H5 (upd H9 L o2) := tk8.trans ((tk_same s9).trans tk9)
                have same9 : Same H (upd H9 L o2) := same_upd (none_of s0 hL') ((same_upd hF (li2.s0.trans (s67.trans s8))).trans s9)
                refine (show ∃ f2 la2 c d, _ ∧ LI R t o H F L f H4 _ f2 la2 ∧ Sm2 F L H3 _ ∧ Tk H3 _ from ⟨f2 ++ [(tog R M s', ch ++ [s'])], la2 ++ [tog R M s'], _, _, rfl, ⟨same9, ss9 _ li2.s2, li2.tk.trans tk59, dt9, by rw [List.map_append]; exact ls9, li2.ok.put hM2 hs' (al_none.mp hnone), fun p hp => List.mem_append_left _ (li2.ext p hp), fun N hN => ?_, by rw [List.length_append, List.length_append, List.length_singleton, List.length_singleton]; have := li2.len; omega⟩, ss9 _ y1, y2.trans tk59⟩)
                rcases List.mem_append.mp hN with hN | hN
                · obtain ⟨c', hc'⟩ := li2.key N hN
                  exact ⟨c', List.mem_append_left _ hc'⟩
                · rw [List.mem_singleton.mp hN]
                  exact ⟨_, List.mem_append_right _ (List.mem_singleton.mpr rfl)⟩
              · have s67 := s6.trans s7
                exact (show ∃ f2 la2 c d, _ ∧ LI R t o H F L f H4 _ f2 la2 ∧ Sm2 F L H3 _ ∧ Tk H3 _ from ⟨f2, la2, _, _, rfl, ⟨li2.s0.trans s67, li2.s2.of s67, li2.tk.trans (tk_same s67), li2.dt.sm s67, stb_l _ _ _ _ s67 li2.ls, li2.ok, li2.ext, li2.key, li2.len⟩, y1.of s67, y2.trans (tk_same s67)⟩)
          · rintro ds p H4 σ3 H5 ⟨hp, ss, rfl, hss⟩ s4 ⟨f2, la2, c, d, rfl, li2, y1, y2⟩
            exact (show ∃ f2 la2 b c d, _ ∧ LI R t o H F L f H3 _ f2 la2 from ⟨f2, la2, _, _, _, rfl, ⟨li2.s0, y1, y2, li2.dt, li2.ls, li2.ok, li2.ext, li2.key, li2.len⟩⟩)
      · rintro ds p H3 σ'' H'' ⟨rfl, _⟩ s3 ⟨f', la, b, c, d, rfl, li⟩
        refine nx_of ?_
        -- level = later
        refine s_set (P := Ex (.ref L)) (ev_varX rfl) fun vx H9 s9 p9 => ?_
        obtain rfl : vx = .ref L := p9
        have few := li.ok.few h8
        have hl := li.len
        refine (show ∃ m', m' < _ ∧ ∃ vl lv f a b c d, _ ∧ _ from ⟨2 * (1024 - f'.length) + (if la = [] then 0 else 1), ?_, .ref L, la, f', _, _, _, _, rfl, li.s0.trans s9, li.dt.sm s9, stb_l _ _ _ _ s9 li.ls, li.ok, li.key, rfl⟩)
        rw [if_neg hne]
        by_cases z : la = []
        · rw [if_pos z]
          rw [z, List.length_nil] at hl
          omega
        · rw [if_neg z]
          have := List.length_pos_iff.mpr z
          omega
    · refine nx_of ?_
      exact s_ret (P := LedR R t o) (ev_var rfl ⟨F, f, rfl, dt.sm sa, ok⟩ (fun v Ha Hb s ⟨a, f, e, h1, h2⟩ => ⟨a, f, e, h1.sm s, h2⟩)) fun v H2 s2 p => k v H2 ((s0.trans sa).trans s2) p
end
end Qt
/-! Qy: the making of a net and of a telling; rounds. -/
namespace Qt
open PySem PySem.Spec PyProof.Rows L2
section
variable {X : Cx} {C : Addr} {x : Str} {ps : List Str} {k : Nat} {sp : Sp} {e : Expr} {es : List Expr} {p pos : Pos} {t : TA}
theorem pe_mk (c : Mcal X.prog X.w X.K X.mg X.base C "__init__" ps k sp) (M : ∃ f, Mk X.K C f) (hr : Room (k + 1) X.A) (hm : X.mg x = some (.ref C)) (ha : PA X (e :: es) t) (hg : Gl X x := by rfl) (hdb : (x == ("__debug__" : Str)) = false := by decide)
    (he : starEach (e :: es) X.env = (false, eval e X.env) :: starEach es X.env := by rfl) (hpl : (backTo pos (starEach es X.env)).any (·.1) = false := by rfl) : PE X (.Call (.Name x p) (e :: es) [] pos) (tMake C sp [] E0 t) := by
  obtain ⟨f, fd, hc, hm', F, b⟩ := c
  obtain ⟨f', M⟩ := M
  have e1 := hm'.at_
  rw [M.init] at e1
  cases e1
  exact pe_make M F hr hg hm b .nil pass0 ha hdb he hpl
end
/-- a made instance: all that was stays -/
theorem same_made {C x dx : Addr} {H H' : Hp} (h1 : H x = none) (h2 : H dx = none) (n : dx ≠ x) (s : SmX x (upd (upd H dx (.own x)) x (.ins C dx [])) H') : Same H H' := fun a u h => by
  have n1 := ne_of_none h h1
  have n2 := ne_of_none h h2
  refine s a u n1 ?_
  rw [upd_ne n1, upd_ne n2]
  exact h
section
variable {σ : L2.St} {H : Hp} {te : TE} {ta : TA} {C CN : Addr} {R : List Str} {ls ls' : List Lk} {l : List (List Str × PyData)}
theorem tk_made {C x dx : Addr} {H : Hp} (h1 : H x = none) (h2 : H dx = none) (n : dx ≠ x) : Same H (upd (upd H dx (.own x)) x (.ins C dx [])) := same_made (C := C) h1 h2 n (.refl _)
theorem ev_mkTel (h : EvA ta σ H [NetD CN R ls, NetD CN R ls']) (h8 : R.length ≤ 10) (l1 : ls.length ≤ 16) (l2 : ls'.length ≤ 16) (so : ∀ x ∈ R, PyData.strOk x = true) : Ev (tMake C (spTelInit C CN) [] E0 ta) σ H (TelD C R (tblF R (lens ls)) (tblF R (lens ls'))) := fun H1 s Q q => h H1 s _ fun vs H2 s2 p x dx hx hdx hn => by
  obtain ⟨v, r, rfl, p1, u, r2, rfl, p2, rfl⟩ := p
  have sm := tk_made (C := C) hx hdx hn
  exact ⟨x, dx, v, u, R, ls, ls', rfl, upd_same, stb_net _ _ _ _ _ _ sm p1, stb_net _ _ _ _ _ _ sm p2, h8, l1, l2, so, fun H3 s3 p3 => ⟨rfl, q _ H3 (s2.trans (same_made hx hdx hn s3)) p3⟩⟩
theorem isKeys_rp {H : Hp} {kvs : List (List Key × V)} {l : List (List Str × PyData)} (h : KvR H tk kvs l) : ∀ {bs : List Addr}, IsKeys H kvs bs → RpAll H (bs.map V.ref) (l.map fun p => tupS p.1) := by
  induction h with
  | nil => intro bs h; cases h; exact .nil
  | cons _ _ ih =>
    intro bs h
    cases h with
    | cons h1 h2 => exact .cons (rp_tupS_of (by rw [tk_kV] at h1; exact h1)) (ih h2)
theorem ev_listDT (h : Ev te σ H (Dt l)) : Ev (tCB (fun xs H Q => ∃ d kvs, xs = [V.ref d] ∧ Rd H d (.dT kvs) ∧ ∀ p bs, H p = none → IsKeys H kvs bs → Q (.ref p) (upd H p (.lst (bs.map V.ref)))) (tCons te tNil)) σ H (Ls (l.map fun p => tupS p.1)) := fun H1 s Q q => h H1 s _ fun v H2 s2 p => by
  obtain ⟨a, kvs, rfl, rd, kv⟩ := p
  exact ⟨a, kvs, rfl, rd, fun p bs hp hk => q _ _ (s2.trans (same_new hp)) ⟨p, _, rfl, upd_same, (isKeys_rp kv hk).sm (same_new hp)⟩⟩
theorem allP_sm {H H' : Hp} (s : Same H H') : ∀ {Ps : List VP} {vs : List V}, (∀ P ∈ Ps, Stb P) → AllP Ps vs H → AllP Ps vs H'
  | [], _, _, h => h
  | P :: Ps, _, st, ⟨v, r, e, h1, h2⟩ => ⟨v, r, e, st P List.mem_cons_self _ _ _ s h1, allP_sm s (fun Q hq => st Q (List.mem_cons_of_mem _ hq)) h2⟩
/-- a tuple of what words tell -/
theorem ev_tupP {Ps : List VP} (h : EvA ta σ H Ps) (hz : Ps.length ≤ 100000) (st : ∀ P ∈ Ps, Stb P) : Ev (tTup ta) σ H (fun v H' => ∃ a xs, v = .ref a ∧ H' a = some (.tup xs) ∧ AllP Ps xs H') := fun H1 s Q q => h H1 s _ fun vs H2 s2 p => by
  refine ⟨by rw [allP_len p]; exact Nat.le_trans hz (by decide), fun t ht => ?_⟩
  have s3 := same_new (o := .tup vs) ht
  exact q _ _ (s2.trans s3) ⟨t, vs, rfl, upd_same, allP_sm s3 st p⟩
theorem ev_tupX {K : PySem.W.Frag} (h : Ev te σ H (fun v H' => ∃ ds, Ls ds v H')) : Ev (tCB (rTupO K) (tCons te tNil)) σ H (fun v H' => ∃ ds, Rp H' v (.tuple ds)) := fun H1 s Q q => h H1 s _ fun v H2 s2 ⟨ds, p⟩ => by
  exact cv_tupL (ds := ds) [v] H2 (Same.refl _) ⟨v, [], rfl, p, rfl⟩ _ fun u H3 s3 p3 => q u H3 (s2.trans s3) ⟨ds, p3⟩
theorem keyT_tk (m : List Str) : keyT (tk m) = tupS m := by
  unfold keyT tk tupS
  rw [List.map_map] <;> rfl
theorem alike_strs : ∀ a b : List Str, PySem.W.alikeAll (a.map PyData.str) (b.map PyData.str) = true
  | [], _ => by unfold PySem.W.alikeAll; rfl
  | _ :: _, [] => by unfold PySem.W.alikeAll; rfl
  | x :: a, y :: b => by
    rw [List.map_cons, List.map_cons]
    unfold PySem.W.alikeAll
    rw [alike_strs a b, Bool.and_true] <;> rfl
theorem alike_tk (a b : List Str) : PySem.W.alike (keyT (tk a)) (keyT (tk b)) = true := by
  rw [keyT_tk, keyT_tk]
  show PySem.W.alike (.tuple _) (.tuple _) = true
  unfold PySem.W.alike
  exact alike_strs a b
end
section
variable {P : Program} {w : World} {K : PySem.W.Frag} {mg : Str → Option Value} {base : Heap} {C CN : Addr}
def netS (i : Nat) : Stmt := (C8.clsBody (top 30)).getD i (.Pass ⟨0, 0, 0, 0⟩)
abbrev sNetInit : Stmt := netS 0
theorem scNetInit : FnScope ["self", "routers", "links"] ["self", "routers", "links"] (defScope sNetInit) := ⟨rfl, rfl, rfl, by decide +kernel, rfl, by decide +kernel, by decide +kernel⟩
def spNetInit (CN : Addr) : Sp := fun vs H Q _ => ∃ (a dx : Addr) (v1 v2 : V) (R : List Str) (ls : List Lk), vs = [.ref a, v1, v2] ∧ H a = some (.ins CN dx []) ∧ Rp H v1 (tupS R) ∧ Rp H v2 (lksD ls) ∧ RsOk R ∧ LsOk R ls ∧ ∀ H', SmX a H H' → NetD CN R ls (.ref a) H' → Q .non H'
theorem cal_net_init (D : Mtd K CN "__init__" "Net.__init__" sNetInit) (T : Gc mg) (N : NetC P w K mg base CN) (Care_routers : Cal P w K mg base "are_routers" ["value"] 2 spAreRouters) (Care_links : Cal P w K mg base "are_links" ["value", "routers"] 4 spAreLinks) :
    Mcal P w K mg base CN "__init__" ["self", "routers", "links"] 5 (spNetInit CN) := by
  refine D.cal N.cls scNetInit (fun vs H Q E h => ?_) (fun _ _ _ _ _ _ us hl => match us, hl with | [_, _, _], _ => rfl) (fun f cdv A outer s H vs Q E hr h => ?_)
  · obtain ⟨a, dx, v1, v2, R, ls, rfl, _⟩ := h
    rfl
  · obtain ⟨a, dx, v1, v2, R, ls, rfl, ha, h1, h2, ro, lo, k⟩ := h
    have nd := scNetInit.nd
    refine ⟨_, (pss_cons (ps_if (PW.pt (pw_or (pt_not (pt_val (pe_cal Care_routers (hr.mono (by decide)) (pa_cons (pv 1) pa_nil)))) (pw_or1 (pt_not (pt_val (pe_cal Care_links (hr.mono (by decide)) (pa_cons (pv 2) (pa_cons (pv 1) pa_nil)))))))) (pss_one ps_never) pss_nil)
 (pss_cons (k_sfld (K := K) (pv 0) (pv 1) rfl)
 (pss_one (k_sfld (K := K) (pv 0) (pv 2) rfl)))), ?_⟩
    refine s_if (b := false) (et_or (b := false) (c := false) (et_not (b := true) (et_test (ev_call (ea_d (ev_varD rfl h1) ea_nil) ?_))) fun _ => et_not (b := true) (et_test (ev_call (ea_d (ev_varD rfl h2) (ea_d (ev_varD rfl h1) ea_nil)) ?_))) (fun e => by cases e) fun _ H1 s1 => ?_
    · rintro vs H1 s1 ⟨v, r, rfl, p1, rfl⟩ Q' q'
      exact ⟨v, R, rfl, p1, ro, q'⟩
    · rintro vs H1 s1 ⟨v, r, rfl, p1, u, r2, rfl, p2, rfl⟩ Q' q'
      exact ⟨v, u, ls, R, rfl, p1, p2, lo, q'⟩
    have ha1 := s1 _ _ ha
    refine nx_of ?_
    refine ⟨v1, rfl, .ref a, rfl, a, CN, dx, [], rfl, ha1, N.cls, N.nr, by show 0 < 1000; decide, ?_⟩
    refine nx_of ?_
    refine ⟨v2, rfl, .ref a, rfl, a, CN, dx, _, rfl, upd_same, N.cls, N.nl, by show 1 < 1000; decide, ?_⟩
    have x6 : ∀ o1 o2, SmX a H (upd (upd H1 a o1) a o2) := fun o1 o2 => ((SmX.of s1).upd).upd
    have t6 : ∀ o1 o2, Tk H (upd (upd H1 a o1) a o2) := fun o1 o2 => (x6 o1 o2).tk fun xs z => by rw [ha] at z; cases z
    exact k _ (x6 _ _) ⟨a, dx, _, v1, v2, rfl, upd_same, rfl, rfl, h1.up (t6 _ _), h2.up (t6 _ _)⟩
theorem ev_mkNet {σ : L2.St} {H : Hp} {ta : TA} {R : List Str} {ls : List Lk} (h : EvA ta σ H [Dd (tupS R), Dd (lksD ls)]) (ro : RsOk R) (lo : LsOk R ls) : Ev (tMake CN (spNetInit CN) [] E0 ta) σ H (NetD CN R ls) := fun H1 s Q q => h H1 s _ fun vs H2 s2 p x dx hx hdx hn => by
  obtain ⟨v, r, rfl, p1, u, r2, rfl, p2, rfl⟩ := p
  have sm := tk_made (C := CN) hx hdx hn
  exact ⟨x, dx, v, u, R, ls, rfl, upd_same, p1.sm sm, p2.sm sm, ro, lo, fun H3 s3 p3 => ⟨rfl, q _ H3 (s2.trans (same_made hx hdx hn s3)) p3⟩⟩
/-! rounds -/
abbrev sRounds : Stmt := top 52
theorem scRounds : FnScope ["old", "new", "told", "found"] ["old", "new"] (defScope sRounds) := ⟨rfl, rfl, rfl, by decide +kernel, rfl, by decide +kernel, by decide +kernel⟩
def RndR (R : List Str) (t o : Str → Str → List Str) : VP := fun v H => (∃ ch, Rp H v (.tuple [.str "rounds", chD ch]) ∧ Chn R t o ch R ∧ ch.length ≤ 1024) ∨ ∃ ds, Rp H v (.tuple [.str "none", .tuple ds])
theorem stb_rnd (R : List Str) (t o : Str → Str → List Str) : Stb (RndR R t o) := fun v H H' s h => h.elim (fun ⟨ch, h1, h2⟩ => .inl ⟨ch, h1.sm s, h2⟩) fun ⟨ds, h⟩ => .inr ⟨ds, h.sm s⟩
theorem stb_led (R : List Str) (t o : Str → Str → List Str) : Stb (LedR R t o) := fun v Ha Hb s ⟨a, f, e, h1, h2⟩ => ⟨a, f, e, h1.sm s, h2⟩
def spRounds (CN : Addr) : Sp := fun vs H Q _ => ∃ (v1 v2 : V) (R : List Str) (ls ls' : List Lk), vs = [v1, v2] ∧ NetD CN R ls v1 H ∧ NetD CN R ls' v2 H ∧ R.length ≤ 5 ∧ ls.length ≤ 16 ∧ ls'.length ≤ 16 ∧ (∀ x ∈ R, PyData.strOk x = true) ∧ ∀ v H', Same H H' → RndR R (tblF R (lens ls)) (tblF R (lens ls')) v H' → Q v H'
theorem FdOk.few5 {R : List Str} {t o : Str → Str → List Str} {f : Fnd} (h : FdOk R t o f) (h8 : R.length ≤ 5) : f.length ≤ 32 := by
  have h1 := nodup_leG (ys := moms R) h.nod fun x hx => by
    obtain ⟨p, hp, rfl⟩ := List.mem_map.mp hx
    exact moms_all (h.sub p hp)
  rw [List.length_map] at h1
  have h2 : (moms R).length = 2 ^ R.length := by
    unfold moms
    rw [moms_len]
    exact Nat.one_mul _
  rw [h2] at h1
  exact Nat.le_trans h1 (Nat.le_trans (Nat.pow_le_pow_right (by decide) h8) (by decide))
structure TelM (K : PySem.W.Frag) (mg : Str → Option Value) (C : Addr) : Prop where
  mks : ∃ f, Mk K C f
  at_ : mg "Telling" = some (.ref C)
theorem cal_rounds (D : Std K mg "rounds" sRounds) (G : Gc mg) (TC : TelC K C) (TM : TelM K mg C) (N : NetC P w K mg base CN) (Cinit : Mcal P w K mg base C "__init__" ["self", "old", "new"] 5 (spTelInit C CN)) (Cled : Mcal P w K mg base C "led" ["self"] 6 (spLed C)) :
    Cal P w K mg base "rounds" ["old", "new"] 7 (spRounds CN) := by
  refine D.cal scRounds (fun vs H Q E h => ?_) (fun _ _ _ _ _ _ us hl => match us, hl with | [_, _], _ => rfl) (fun f cdv A outer s H vs Q E hr h => ?_)
  · obtain ⟨v1, v2, R, ls, ls', rfl, _⟩ := h
    rfl
  · obtain ⟨v1, v2, R, ls, ls', rfl, h1, h2, h8, l1, l2, so, k⟩ := h
    have nd := scRounds.nd
    have hu := hu_of hr
    have T := G
    have hr2 := hr.mono (show 2 ≤ 6 by decide)
    refine ⟨_, (pss_cons (ps_set (i := 2) nd rfl (Or.inl rfl) (pe_mk Cinit TM.mks hr TM.at_ (pa_cons (pv 0) (pa_cons (pv 1) pa_nil))))
 (pss_cons (ps_set (i := 3) nd rfl (Or.inl rfl) (pe_mcal0 Cled (pv 2) (hr.mono (by decide))))
 (pss_cons (ps_if (pt_cmp (pc_din hu (pe_netrouters N (pv 0) hr2) (pv 3))) (pss_one (ps_ret (pe_tup (pa_cons (pe_gstr T.gROUNDS) (pa_cons (pe_dget hu (pv 3) (pe_netrouters N (pv 0) hr2) (fun _ _ => rfl)) pa_nil))))) pss_nil)
 (pss_one (ps_ret (pe_tup (pa_cons (pe_gstr T.gNONE) (pa_cons (pe_callTy (k_tup (K := K)) (by rfl) T.b.tuple (by decide +kernel) (pa_cons (pe_ssT (K := K) rfl hr.units (by rfl) T.b.sorted (by rfl) T.b.set (pe_callTy (call_list_dT rfl) (by rfl) T.b.list (by decide +kernel) (pa_cons (pv 3) pa_nil))) pa_nil)) pa_nil)))))))), ?_⟩
    refine s_set (P := TelD C R (tblF R (lens ls)) (tblF R (lens ls'))) (ev_mkTel (ea_cons (ev_var rfl h1 (stb_net _ _ _)) (stb_net _ _ _) (ea_cons (ev_var rfl h2 (stb_net _ _ _)) (stb_net _ _ _) ea_nil)) (by omega) l1 l2 so) fun vt H1 s1 p1 => ?_
    refine nx_of ?_
    generalize tblF R (lens ls) = t at p1 k
    generalize tblF R (lens ls') = o at p1 k
    refine s_set (P := LedR R t o) (ev_meth (A := TelD C R t o) (t := tNil) (Ps := []) (ev_var rfl p1 (stb_tel _ _ _ _)) (stb_tel _ _ _ _) (fun v H1 ⟨a, dx, vr, vt, vo, e, h, _⟩ => ⟨a, dx, _, e, h, rfl⟩) ea_nil ?_) fun vf H2 s2 p2 => ?_
    · rintro vs H3 s3 ⟨v, r, rfl, p1, rfl⟩ Q' q'
      exact ⟨v, R, t, o, rfl, p1, by omega, so, q'⟩
    refine nx_of ?_
    obtain ⟨F, fo, rfl, df, ok⟩ := p2
    have hn := stb_net _ _ _ _ _ _ (s1.trans s2) h1
    refine s_if (et_B (ev_dinT (ev_routers (ev_var rfl hn (stb_net _ _ _))) (ev_var rfl df.dt (stb_dt _)))) (fun e H3 s3 => ?_) (fun e H3 s3 => ?_)
    · rw [aemb_al] at e
      cases hq : al fo R with
      | none => rw [hq] at e; cases e
      | some ch =>
        have hm := al_mem hq
        have lc := ok.len _ hm
        have few := ok.few5 h8
        refine s_ret (P := Dd (.tuple [.str "rounds", chD ch])) (ev_tup (ds := [.str "rounds", chD ch]) (ea_d ev_str (ea_d (ev_dgetT (ev_var rfl (df.sm s3).dt (stb_dt _)) (ev_routers (ev_var rfl (stb_net _ _ _ _ _ _ s3 hn) (stb_net _ _ _))) (by rw [aemb_al, hq] <;> rfl)) ea_nil)) (by simp)) fun v H4 s4 p4 => k v H4 (((s1.trans s2).trans s3).trans s4) (.inl ⟨ch, p4, ok.ch _ hm, ?_⟩)
        have : ch.length ≤ fo.length := lc
        omega
    · refine nx_of ?_
      have few := ok.few5 h8
      have el : ((foD fo).map fun p => tupS p.1) = ((fo.map (·.1)).map tk).map keyT := by
        unfold foD aemb
        rw [List.map_map, List.map_map, List.map_map]
        exact List.map_congr_left fun p _ => (keyT_tk p.1).symm
      have evs : Ev _ [some v1, some v2, some vt, some (.ref F)] H3 _ := ev_ssT (K := K) (ks := (fo.map (·.1)).map tk) (by rw [← el]; exact ev_listDT (te := tVar 3) (ev_var rfl (df.sm s3).dt (stb_dt _))) (by rw [List.length_map, List.length_map]; omega) (fun a ha b hb => by
        obtain ⟨a', _, rfl⟩ := List.mem_map.mp ha
        obtain ⟨b', _, rfl⟩ := List.mem_map.mp hb
        exact alike_tk a' b')
      refine s_ret (ev_tupP (Ps := [Dd (.str "none"), fun v H' => ∃ ds, Rp H' v (.tuple ds)]) (ea_d ev_str (ea_cons (ev_tupX (evs.imp fun v Hx sx ⟨ks', p, _, _⟩ => ⟨_, p⟩)) (fun v Ha Hb s ⟨ds, h⟩ => ⟨ds, h.sm s⟩) ea_nil)) (by simp) (fun Pp hp => ?_)) fun v H4 s4 p4 => k v H4 (((s1.trans s2).trans s3).trans s4) (.inr ?_)
      · rcases List.mem_cons.mp hp with rfl | hp
        · exact stb_d _
        · rw [List.mem_singleton.mp hp]
          exact fun v Ha Hb s ⟨ds, h⟩ => ⟨ds, h.sm s⟩
      · obtain ⟨a, xs, rfl, e1, v0, r, rfl, q1, v2', r2, rfl, ⟨ds, q2⟩, rfl⟩ := p4
        exact ⟨ds, .tup e1 (.cons q1 (.one q2))⟩
end
end Qt
/-! QLa: ints, pots. -/
namespace Qt
open PySem PySem.Spec PyProof.Rows L2
/-! ### ints -/
def CPowB (i j : Int) : Prop := 0 ≤ j ∧ ((i.natAbs.log2 : Int) + 1) * j ≤ 2 ^ 27
theorem op_powB {X : Cx} : OpR X (binaryOp .Pow) (rI CPowB fun i j => .int (i ^ j.toNat)) := opI fun i j _ _ _ _ _ hc q => pow_int hc.1 (by
  have h1 : ((Builtin.Int.intBits i : Nat) : Int) ≤ (i.natAbs.log2 : Int) + 1 := by
    unfold Builtin.Int.intBits
    split <;> omega
  exact Int.le_trans (Int.mul_le_mul_of_nonneg_right h1 hc.1) hc.2) q
theorem op_mulB {X : Cx} : OpR X (binaryOp .Mult) (rI CMulW fun i j => .int (i * j)) := op_mulW
def Nl (m : Int) : VP := fun v _ => ∃ i : Int, v = .int i ∧ 0 ≤ i ∧ i < m
theorem stb_nl (m : Int) : Stb (Nl m) := fun _ _ _ _ h => h
def Ps (m : Int) : VP := fun v _ => ∃ i : Int, v = .int i ∧ 0 < i ∧ i < m
theorem stb_ps (m : Int) : Stb (Ps m) := fun _ _ _ _ h => h
section
variable {K : PySem.W.Frag} {σ : L2.St} {H : Hp} {ta tb te to ti : TE} {i j m n : Int} {P : VP}
theorem ev_nl (h : Ev te σ H (Dd (.int i))) (h0 : 0 ≤ i) (h1 : i < m) : Ev te σ H (Nl m) := h.imp fun v _ _ p => ⟨i, rp_int p, h0, h1⟩
theorem ev_ps (h : Ev te σ H (Dd (.int i))) (h0 : 0 < i) (h1 : i < m) : Ev te σ H (Ps m) := h.imp fun v _ _ p => ⟨i, rp_int p, h0, h1⟩
theorem ev_nlc (h0 : 0 ≤ i) (h1 : i < m) : Ev (tC (.int i)) σ H (Nl m) := ev_c fun _ => ⟨i, rfl, h0, h1⟩
theorem ev_addN (ha : Ev ta σ H (Nl m)) (hb : Ev tb σ H (Nl n)) : Ev (tOp (rI0 fun i j => .int (i + j)) ta tb) σ H (Nl (m + n)) := ev_op ha (stb_nl _) hb fun x y H1 s ⟨i, e1, a1, a2⟩ ⟨j, e2, b1, b2⟩ Q q => ⟨i, j, e1, e2, q _ H1 (Same.refl _) ⟨_, rfl, by omega, by omega⟩⟩
theorem abs_lt {i m : Int} {a : Nat} (h0 : 0 ≤ i) (h1 : i < m) (ha : m ≤ 2 ^ a) : i.natAbs < 2 ^ a := by
  have h2 : ((i.natAbs : Nat) : Int) = i := by omega
  have h3 : ((i.natAbs : Nat) : Int) < ((2 ^ a : Nat) : Int) := by
    rw [h2]
    have : ((2 ^ a : Nat) : Int) = 2 ^ a := by exact Int.natCast_pow 2 a
    rw [this]
    exact Int.lt_of_lt_of_le h1 ha
  omega
theorem ev_mulN {a b : Nat} (ha : Ev ta σ H (Nl m)) (hb : Ev tb σ H (Nl n)) (h1 : m ≤ 2 ^ a) (h2 : n ≤ 2 ^ b) (h3 : 0 < a) (h4 : 0 < b) (h : a + b ≤ 1000000) : Ev (tOp (rI CMulW fun i j => .int (i * j)) ta tb) σ H (Nl (m * n)) := ev_op ha (stb_nl _) hb fun x y H1 s ⟨i, e1, a1, a2⟩ ⟨j, e2, b1, b2⟩ Q q => ⟨i, j, e1, e2, wide_mul (abs_lt a1 a2 h1) (abs_lt b1 b2 h2) h3 h4 h, q _ H1 (Same.refl _) ⟨_, rfl, Int.mul_nonneg a1 b1, Int.lt_of_le_of_lt (Int.mul_le_mul_of_nonneg_right (Int.le_of_lt a2) b1) (Int.mul_lt_mul_of_pos_left b2 (by omega))⟩⟩
theorem ev_modP (ha : Ev ta σ H (Nl m)) (hb : Ev tb σ H (Ps n)) : Ev (tOp (rI (fun _ j => 0 < j) fun i j => .int (i % j)) ta tb) σ H (Nl n) := ev_op ha (stb_nl _) hb fun x y H1 s ⟨i, e1, a1, a2⟩ ⟨j, e2, b1, b2⟩ Q q => ⟨i, j, e1, e2, b1, q _ H1 (Same.refl _) ⟨_, rfl, Int.emod_nonneg _ (by omega), Int.lt_trans (Int.emod_lt_of_pos _ b1) b2⟩⟩
theorem ev_modE (ha : Ev ta σ H (Nl m)) (hb : Ev tb σ H (Dd (.int j))) (h0 : 0 < j) : Ev (tOp (rI (fun _ j => 0 < j) fun i j => .int (i % j)) ta tb) σ H (Nl j) := ev_op ha (stb_nl _) hb fun x y H1 s ⟨i, e1, a1, a2⟩ p2 Q q => ⟨i, j, e1, rp_int p2, h0, q _ H1 (Same.refl _) ⟨_, rfl, Int.emod_nonneg _ (by omega), Int.emod_lt_of_pos _ h0⟩⟩
theorem ev_modD (ha : Ev ta σ H (Dd (.int i))) (hb : Ev tb σ H (Dd (.int j))) (h0 : 0 < j) : Ev (tOp (rI (fun _ j => 0 < j) fun i j => .int (i % j)) ta tb) σ H (Dd (.int (i % j))) := ev_op ha (stb_d _) hb fun x y H1 s p1 p2 Q q => ⟨i, j, rp_int p1, rp_int p2, h0, q _ H1 (Same.refl _) (.int _)⟩
theorem ev_mulD (ha : Ev ta σ H (Dd (.int i))) (hb : Ev tb σ H (Dd (.int j))) (h : CMulW i j) : Ev (tOp (rI CMulW fun i j => .int (i * j)) ta tb) σ H (Dd (.int (i * j))) := ev_op ha (stb_d _) hb fun x y H1 s p1 p2 Q q => ⟨i, j, rp_int p1, rp_int p2, h, q _ H1 (Same.refl _) (.int _)⟩
theorem ev_powD (ha : Ev ta σ H (Dd (.int i))) (hb : Ev tb σ H (Dd (.int j))) (h : CPowB i j) : Ev (tOp (rI CPowB fun i j => .int (i ^ j.toNat)) ta tb) σ H (Dd (.int (i ^ j.toNat))) := ev_op ha (stb_d _) hb fun x y H1 s p1 p2 Q q => ⟨i, j, rp_int p1, rp_int p2, h, q _ H1 (Same.refl _) (.int _)⟩
/-- a cube: its range is not told -/
theorem ev_cube {a : Nat} (ha : Ev ta σ H (Nl m)) (h1 : m ≤ 2 ^ a) (h2 : 0 < a) (h3 : a ≤ 1000000) : Ev (tOp (rI CPowB fun i j => .int (i ^ j.toNat)) ta (tC (.int 3))) σ H (fun v _ => ∃ i : Int, v = .int i ∧ 0 ≤ i) := ev_op ha (stb_nl _) (ev_int (i := 3)) fun x y H1 s ⟨i, e1, a1, a2⟩ p2 Q q => by
  have hb := PySem.Flt.log2_lt_of h2 (abs_lt a1 a2 h1)
  refine ⟨i, 3, e1, rp_int p2, ⟨by decide, ?_⟩, q _ H1 (Same.refl _) ⟨_, rfl, ?_⟩⟩
  · have : ((2 : Int) ^ 27) = 134217728 := by decide
    omega
  · exact Int.pow_nonneg a1
theorem ev_fdivN (ha : Ev ta σ H (Nl m)) (hb : Ev tb σ H (Dd (.int j))) (h0 : 0 < j) (h1 : j < 1073741824) : Ev (tOp (rI CDivW fun i j => .int (i / j)) ta tb) σ H (Nl m) := ev_op ha (stb_nl _) hb fun x y H1 s ⟨i, e1, a1, a2⟩ p2 Q q => ⟨i, j, e1, rp_int p2, wide_div (b := 30) h0 (by omega) (by decide) (by decide), q _ H1 (Same.refl _) ⟨_, rfl, Int.ediv_nonneg a1 (by omega), Int.lt_of_le_of_lt (Int.ediv_le_self _ a1) a2⟩⟩
def rInt1 : List V → Hp → VK → Prop := fun xs H Q => (∃ i, xs = [.int i] ∧ Q (.int i) H) ∨ ∃ k, xs = [.bl k] ∧ Q (.int (if k then 1 else 0)) H
theorem ev_int1 (h : Ev te σ H (Dd (.int i))) : Ev (tCB (fun xs H Q => (∃ i, xs = [.int i] ∧ Q (.int i) H) ∨ ∃ k, xs = [.bl k] ∧ Q (.int (if k then 1 else 0)) H) (tCons te tNil)) σ H (Dd (.int i)) := fun H1 s Q q => h H1 s _ fun v H2 s2 p => .inl ⟨i, by rw [rp_int p], q _ H2 s2 (.int _)⟩
theorem ev_int1P {p : Int → Prop} (h : Ev te σ H (fun v _ => ∃ i, v = .int i ∧ p i)) : Ev (tCB (fun xs H Q => (∃ i, xs = [.int i] ∧ Q (.int i) H) ∨ ∃ k, xs = [.bl k] ∧ Q (.int (if k then 1 else 0)) H) (tCons te tNil)) σ H (fun v _ => ∃ i, v = .int i ∧ p i) := fun H1 s Q q => h H1 s _ fun v H2 s2 ⟨i, e, hp⟩ => .inl ⟨i, by rw [e], q _ H2 s2 ⟨i, rfl, hp⟩⟩
theorem ev_int1B {b : Bool} (h : Ev te σ H (Dd (.bool b))) : Ev (tCB (fun xs H Q => (∃ i, xs = [.int i] ∧ Q (.int i) H) ∨ ∃ k, xs = [.bl k] ∧ Q (.int (if k then 1 else 0)) H) (tCons te tNil)) σ H (Dd (.int (if b then 1 else 0))) := fun H1 s Q q => h H1 s _ fun v H2 s2 p => .inr ⟨b, by rw [rp_bl p], q _ H2 s2 (.int _)⟩
theorem ev_abs (h : Ev te σ H (Dd (.int i))) : Ev (tCB (fun xs H Q => ∃ i, xs = [.int i] ∧ Q (.int (if i < 0 then -i else i)) H) (tCons te tNil)) σ H (Dd (.int (if i < 0 then -i else i))) := fun H1 s Q q => h H1 s _ fun v H2 s2 p => ⟨i, by rw [rp_int p], q _ H2 s2 (.int _)⟩
theorem ixN_nn {n : Nat} {i : Int} (h0 : 0 ≤ i) (h1 : i < n) : ixN n i = some i.toNat := by
  unfold ixN
  rw [if_pos h0, if_pos (by omega)]
theorem ev_ixLn {ds : List PyData} (ha : Ev ta σ H (Ls ds)) (hb : Ev tb σ H (Nl ds.length)) : Ev (tOp (rIxL K) ta tb) σ H (fun v H' => ∃ d ∈ ds, Rp H' v d) := ev_op ha (stb_l _) hb fun u v H1 s p1 ⟨i, e, h0, h1⟩ Q q => by
  obtain ⟨a, xs, rfl, l1, l2⟩ := p1
  have e3 : i.toNat < xs.length := by rw [l2.length]; omega
  obtain ⟨d, hd, rd⟩ := l2.at_ (List.getElem?_eq_getElem e3)
  refine ⟨a, xs, i, xs[i.toNat], rfl, e, SqL.of l1, ?_, q _ H1 (Same.refl _) ⟨d, List.mem_of_getElem? hd, rd⟩⟩
  unfold atI
  rw [ixN_nn h0 (by rw [l2.length]; exact h1)]
  exact List.getElem?_eq_getElem e3
theorem s_setL {D : Ends} {p : Addr} {xs : List V} {k : Nat} (hv : Ev te σ H P) (st : Stb P) (ho : Ev to σ H (Ex (.ref p))) (hi : Ev ti σ H (Dd (.int i))) (hp : H p = some (.lst xs)) (hj : ixN xs.length i = some k) (q : ∀ v H1, Same H H1 → P v H1 → D.nx σ (upd H1 p (.lst (xs.set k v)))) : tAsg te (gSub to ti rSetL) D σ H := hv H (Same.refl _) _ fun v H1 s1 p1 => ho H1 s1 _ fun x H2 s2 p2 => hi H2 (s1.trans s2) _ fun y H3 s3 p3 => by
  obtain rfl : x = .ref p := p2
  have s := (s1.trans s2).trans s3
  exact ⟨p, xs, i, k, rfl, rp_int p3, s _ _ hp, hj, q v H3 s (st _ _ _ (s2.trans s3) p1)⟩
end
/-! ### pots -/
def Pot (p : Addr) (n : Nat) (H : Hp) : Prop := ∃ own seed c : Int, H p = some (.lst [.int own, .int seed, .int c]) ∧ 0 ≤ own ∧ own < 10 ^ 300 ∧ 0 ≤ seed ∧ seed < 2 ^ 61 ∧ 0 ≤ c ∧ c ≤ n
theorem Pot.sm {p : Addr} {n : Nat} {H H' : Hp} (s : Same H H') (h : Pot p n H) : Pot p n H' := let ⟨o, s', c, h1, h2⟩ := h; ⟨o, s', c, s _ _ h1, h2⟩
theorem Pot.mono {p : Addr} {n m : Nat} {H : Hp} (l : n ≤ m) (h : Pot p n H) : Pot p m H := let ⟨o, s', c, h1, h2, h3, h4, h5, h6, h7⟩ := h; ⟨o, s', c, h1, h2, h3, h4, h5, h6, by omega⟩
section
variable {P : Program} {w : World} {K : PySem.W.Frag} {mg : Str → Option Value} {base : Heap}
abbrev sTake : Stmt := top 55
theorem scTake : FnScope ["_law_pot_here", "_law_upto", "_law_prime", "_law_stirred", "_law_digit"] ["_law_pot_here", "_law_upto"] (defScope sTake) := ⟨rfl, rfl, rfl, by decide +kernel, rfl, by decide +kernel, by decide +kernel⟩
def spTake : Sp := fun vs H Q _ => ∃ (p : Addr) (j : Int) (n : Nat), vs = [.ref p, .int j] ∧ 0 < j ∧ j ≤ 1000 ∧ Pot p n H ∧ n ≤ 10 ^ 15 ∧ ∀ (i : Int) H', 0 ≤ i → i < j → SmX p H H' → Pot p (n + 1) H' → Q (.int i) H'
theorem pot_ls {p : Addr} {H : Hp} {a b c : Int} (h : H p = some (.lst [.int a, .int b, .int c])) : Ls [.int a, .int b, .int c] (.ref p) H := ⟨p, _, rfl, h, .cons (.int _) (.cons (.int _) (.one (.int _)))⟩
theorem cal_take (D : Std K mg "_law_take" sTake) (T : Gc mg) : Cal P w K mg base "_law_take" ["_law_pot_here", "_law_upto"] 1 spTake := by
  refine D.cal scTake (fun vs H Q E h => ?_) (fun _ _ _ _ _ _ us hl => match us, hl with | [_, _], _ => rfl) (fun f cdv A outer s H vs Q E hr h => ?_)
  · obtain ⟨p, j, n, rfl, _⟩ := h
    rfl
  · obtain ⟨p, j, n, rfl, j0, j1, ⟨own, seed, c, hp, o0, o1, s0, s1, c0, c1⟩, hn, k⟩ := h
    have nd := scTake.nd
    refine ⟨_, (pss_cons (ps_if (pt_cmpR op_gt (pe_ix (k_ixL (K := K)) (pv 0) pe_int (fun _ _ => rfl)) pe_int (nomark _)) (pss_cons (ps_set (i := 4) nd rfl (Or.inl rfl) (pe_op op_mod (pe_callTy call_int1 (by rfl) T.b.int (by decide +kernel) (pa_cons (pe_ix (k_ixL (K := K)) (pv 0) pe_int (fun _ _ => rfl)) pa_nil)) (pv 1)))
 (pss_cons (ps_asg (pe_op op_fdivW (pe_ix (k_ixL (K := K)) (pv 0) pe_int (fun _ _ => rfl)) (pv 1)) (pg_sub (pv 0) pe_int set_list))
 (pss_one (ps_ret (pv 4))))) pss_nil)
 (pss_cons (ps_asg (pe_op op_add (pe_ix (k_ixL (K := K)) (pv 0) pe_int (fun _ _ => rfl)) pe_int) (pg_sub (pv 0) pe_int set_list))
 (pss_cons (ps_set (i := 2) nd rfl (Or.inl rfl) (pe_ix (k_ixL (K := K)) (pe_lst (pa_cons pe_int (pa_cons pe_int (pa_cons pe_int (pa_cons pe_int (pa_cons pe_int pa_nil)))))) (pe_op op_mod (pe_callTy call_int1 (by rfl) T.b.int (by decide +kernel) (pa_cons (pe_ix (k_ixL (K := K)) (pv 0) pe_int (fun _ _ => rfl)) pa_nil)) pe_int) (fun _ _ => rfl)))
 (pss_cons (ps_set (i := 3) nd rfl (Or.inl rfl) (pe_op op_mod (pe_callTy call_int1 (by rfl) T.b.int (by decide +kernel) (pa_cons (pe_op op_powB (pe_callTy call_int1 (by rfl) T.b.int (by decide +kernel) (pa_cons (pe_op op_add (pe_op op_add (pe_ix (k_ixL (K := K)) (pv 0) pe_int (fun _ _ => rfl)) (pe_op op_mulB (pe_op op_mulB pe_int (pe_ix (k_ixL (K := K)) (pv 0) pe_int (fun _ _ => rfl))) (pe_ix (k_ixL (K := K)) (pv 0) pe_int (fun _ _ => rfl)))) pe_int) pa_nil)) pe_int) pa_nil)) (pv 2)))
 (pss_cons (ps_set (i := 3) nd rfl (Or.inl rfl) (pe_op op_mod (pe_callTy call_int1 (by rfl) T.b.int (by decide +kernel) (pa_cons (pe_op op_mulB (pv 3) (pe_op op_add (pe_op op_mod (pe_callTy call_int1 (by rfl) T.b.int (by decide +kernel) (pa_cons (pv 3) pa_nil)) pe_int) (pe_op op_mulB pe_int (pe_ix (k_ixL (K := K)) (pv 0) pe_int (fun _ _ => rfl))))) pa_nil)) pe_int))
 (pss_one (ps_ret (pe_op op_mod (pe_callTy call_int1 (by rfl) T.b.int (by decide +kernel) (pa_cons (pe_op op_fdivW (pv 3) pe_int) pa_nil)) (pv 1))))))))), ?_⟩
    have rd : ∀ {H' : Hp} {σ : L2.St} {a b c : Int}, σ[0]? = some (some (.ref p)) → H' p = some (.lst [.int a, .int b, .int c]) → (Ev (tOp (rIxL K) (tVar 0) (tC (.int 0))) σ H' (Dd (.int a)) ∧ Ev (tOp (rIxL K) (tVar 0) (tC (.int 1))) σ H' (Dd (.int b)) ∧ Ev (tOp (rIxL K) (tVar 0) (tC (.int 2))) σ H' (Dd (.int c))) := fun e h =>
      ⟨ev_ixL (j := 0) (ev_var e (pot_ls h) (stb_l _)) ev_int rfl rfl, ev_ixL (j := 1) (ev_var e (pot_ls h) (stb_l _)) ev_int rfl rfl, ev_ixL (j := 2) (ev_var e (pot_ls h) (stb_l _)) ev_int rfl rfl⟩
    refine s_if (et_test (ev_gt (rd rfl hp).1 ev_int)) (fun e H1 sa => ?_) (fun e H1 sa => ?_)
    · have hp1 := sa _ _ hp
      refine s_set (ev_modD (ev_int1 (rd rfl hp1).1) (ev_varI rfl) j0) fun v1 H2 sb p1 => ?_
      refine nx_of ?_
      have hp2 := sb _ _ hp1
      refine s_setL (P := Nl (10 ^ 300)) (k := 0) (ev_fdivN (ev_nl (rd rfl hp2).1 o0 o1) (ev_varI rfl) j0 (by omega)) (stb_nl _) (ev_varX rfl) ev_int hp2 rfl fun v2 H3 sc p2 => ?_
      refine nx_of ?_
      obtain ⟨q, rfl, q0, q1⟩ := p2
      refine s_ret (ev_varD rfl (Rp.up p1 (by exact (tk_same sc).trans (tk_upd fun xs z => by rw [sc _ _ hp2] at z; cases z)))) fun v H4 sd p4 => ?_
      rw [rp_int p4]
      exact k _ H4 (Int.emod_nonneg _ (by omega)) (Int.emod_lt_of_pos _ j0) ((SmX.of ((sa.trans sb).trans sc)).upd.trans (.of sd)) ⟨q, seed, c, sd _ _ upd_same, q0, q1, s0, s1, c0, by omega⟩
    · refine nx_of ?_
      have hp1 := sa _ _ hp
      refine s_setL (k := 2) (ev_add (rd rfl hp1).2.2 ev_int) (stb_d _) (ev_varX rfl) ev_int hp1 rfl fun v2 H2 sb p2 => ?_
      rw [rp_int p2]
      refine nx_of ?_
      have x2 : SmX p H (upd H2 p (.lst (([.int own, .int seed, .int c] : List V).set 2 (.int (c + 1))))) := (SmX.of (sa.trans sb)).upd
      have hp2 : (upd H2 p (.lst (([.int own, .int seed, .int c] : List V).set 2 (.int (c + 1))))) p = some (.lst [.int own, .int seed, .int (c + 1)]) := upd_same
      generalize (upd H2 p (.lst (([.int own, .int seed, .int c] : List V).set 2 (.int (c + 1))))) = H3 at x2 hp2
      have hn' : (n : Int) ≤ 1000000000000000 := by
        have : (10 : Nat) ^ 15 = 1000000000000000 := by decide
        omega
      have hc1 : 0 ≤ c + 1 := by omega
      have hc2 : c + 1 < 2 ^ 51 := by
        have : (2 : Int) ^ 51 = 2251799813685248 := by decide
        omega
      refine s_set (P := Ps (2 ^ 32)) (Ev.imp (ev_ixLn (ds := [.int 2147483647, .int 2147483629, .int 2147483587, .int 2147483579, .int 2147483563]) (ev_lst (ds := [.int 2147483647, .int 2147483629, .int 2147483587, .int 2147483579, .int 2147483563]) (ea_d ev_int (ea_d ev_int (ea_d ev_int (ea_d ev_int (ea_d ev_int ea_nil))))) (by simp)) (ev_modE (m := 2 ^ 51) (ev_nl (ev_int1 (rd rfl hp2).2.2) hc1 hc2) ev_int (by decide))) fun v Hx _ ⟨d, hd, rd⟩ => ?_) fun v3 H4 sc p3 => ?_
      · have : ∃ i : Int, d = .int i ∧ 0 < i ∧ i < 2 ^ 32 := by
          simp only [List.mem_cons, List.not_mem_nil, or_false] at hd
          rcases hd with rfl | rfl | rfl | rfl | rfl <;> exact ⟨_, rfl, by decide, by decide⟩
        obtain ⟨i, rfl, h0, h1⟩ := this
        exact ⟨i, rp_int rd, h0, h1⟩
      refine nx_of ?_
      have hp3 := sc _ _ hp2
      have cc : ∀ {H' : Hp} {σ : L2.St}, σ[0]? = some (some (.ref p)) → H' p = some (.lst [.int own, .int seed, .int (c + 1)]) → Ev (tOp (rIxL K) (tVar 0) (tC (.int 2))) σ H' (Nl (2 ^ 51)) := fun e h => ev_nl (rd e h).2.2 hc1 hc2
      refine s_set (P := Nl (2 ^ 32)) ?_ fun v4 H5 sd p4 => ?_
      · have e1 : Ev _ ((L2.start ["_law_pot_here", "_law_upto", "_law_prime", "_law_stirred", "_law_digit"] [.ref p, .int j]).set 2 (some v3)) H4 (Nl (2 ^ 61 + (99990 * 2 ^ 51 * 2 ^ 51) + 72)) := ev_addN (ev_addN (ev_nl (rd rfl hp3).2.1 s0 s1) (ev_mulN (a := 100) (b := 52) (ev_mulN (a := 17) (b := 52) (ev_nlc (i := 99989) (m := 99990) (by decide) (by decide)) (cc rfl hp3) (by decide) (by decide) (by decide) (by decide) (by decide)) (cc rfl hp3) (by decide) (by decide) (by decide) (by decide) (by decide))) (ev_nlc (i := 71) (m := 72) (by decide) (by decide))
        have e2 := ev_cube (a := 130) (ev_int1P e1) (by decide) (by decide) (by decide)
        exact ev_op (ev_int1P e2) (fun _ _ _ _ h => h) (ev_var rfl p3 (stb_ps _)) fun x y H1 s ⟨i, e1, a1⟩ ⟨j, e2, b1, b2⟩ Q q => ⟨i, j, e1, e2, b1, q _ H1 (Same.refl _) ⟨_, rfl, Int.emod_nonneg _ (by omega), Int.lt_trans (Int.emod_lt_of_pos _ b1) b2⟩⟩
      refine nx_of ?_
      have hp4 := sd _ _ hp3
      refine s_set (P := Nl 2305843009213693907) ?_ fun v5 H6 se p5 => ?_
      · exact ev_modE (ev_int1P (ev_mulN (a := 32) (b := 100) (ev_var rfl p4 (stb_nl _)) (ev_addN (ev_modE (ev_int1P (ev_var rfl p4 (stb_nl _))) (ev_int (i := 10007)) (by decide)) (ev_mulN (a := 7) (b := 52) (ev_nlc (i := 83) (m := 84) (by decide) (by decide)) (cc rfl hp4) (by decide) (by decide) (by decide) (by decide) (by decide))) (by decide) (by decide) (by decide) (by decide) (by decide))) ev_int (by decide)
      refine nx_of ?_
      refine s_ret (P := Nl j) (ev_modE (ev_int1P (ev_fdivN (ev_var rfl p5 (stb_nl _)) ev_int (by decide) (by decide))) (ev_varI rfl) j0) fun v H7 sf p7 => ?_
      obtain ⟨i, rfl, i0, i1⟩ := p7
      exact k i H7 i0 i1 (x2.trans (.of (((sc.trans sd).trans se).trans sf))) ⟨own, seed, c + 1, sf _ _ (se _ _ hp4), o0, o1, s0, s1, hc1, by omega⟩
end
end Qt
/-! QLb: what draws from a pot. -/
namespace Qt
open PySem PySem.Spec PyProof.Rows L2
structure SmP (p : Addr) (H H' : Hp) : Prop where
  x : SmX p H H'
  t : Tk H H'
theorem SmP.refl {p : Addr} (H : Hp) : SmP p H H := ⟨.refl H, tk_same (Same.refl H)⟩
theorem SmP.of {p : Addr} {H H' : Hp} (s : Same H H') : SmP p H H' := ⟨.of s, tk_same s⟩
theorem SmP.trans {p : Addr} {H H1 H2 : Hp} (a : SmP p H H1) (b : SmP p H1 H2) : SmP p H H2 := ⟨a.x.trans b.x, a.t.trans b.t⟩
theorem Pot.tup {p : Addr} {n : Nat} {H : Hp} (h : Pot p n H) : ∀ xs, H p ≠ some (.tup xs) := fun xs z => by
  obtain ⟨_, _, _, e, _⟩ := h
  rw [e] at z
  cases z
theorem Pot.ne {p : Addr} {n : Nat} {H : Hp} (h : Pot p n H) : H p ≠ none := fun z => by
  obtain ⟨_, _, _, e, _⟩ := h
  rw [e] at z
  cases z
theorem SmP.ofX {p : Addr} {n : Nat} {H H' : Hp} (h : Pot p n H) (s : SmX p H H') : SmP p H H' := ⟨s, s.tk h.tup⟩
def StP (p : Addr) (P : VP) : Prop := ∀ v H H', SmP p H H' → P v H → P v H'
theorem stp_d (p : Addr) (d : PyData) : StP p (Dd d) := fun v H H' s h => Rp.up h s.t
theorem stp_nl (p : Addr) (m : Int) : StP p (Nl m) := fun _ _ _ _ h => h
theorem stp_x (p : Addr) (u : V) : StP p (Ex u) := fun _ _ _ _ h => h
/-- a list that is not the pot -/
def LsP (p : Addr) (ds : List PyData) : VP := fun v H => Ls ds v H ∧ v ≠ .ref p
theorem stp_lsP (p : Addr) (ds : List PyData) : StP p (LsP p ds) := fun v H H' s ⟨⟨a, xs, e, h1, h2⟩, n⟩ => ⟨⟨a, xs, e, s.x _ _ (fun z => n (by rw [e, z])) h1, h2.up s.t⟩, n⟩
theorem stb_lsP (p : Addr) (ds : List PyData) : Stb (LsP p ds) := fun v H H' s ⟨h, n⟩ => ⟨stb_l _ _ _ _ s h, n⟩
theorem stp_dD (p : Addr) (P : PyData → Prop) : StP p (fun v H => ∃ d, P d ∧ Rp H v d) := fun v H H' s ⟨d, h1, h⟩ => ⟨d, h1, Rp.up h s.t⟩
theorem stp_bp (p : Addr) (q : Prop) : StP p (BoolP q) := fun _ _ _ _ h => h
def Em (p : Addr) (te : TE) (σ : L2.St) (H : Hp) (m : Nat) (P : VP) : Prop := ∀ Q : VK, (∀ v H', SmP p H H' → Pot p m H' → P v H' → Q v H') → te σ H Q
def EmA (p : Addr) (ta : TA) (σ : L2.St) (H : Hp) (m : Nat) (Ps : List VP) : Prop := ∀ Q : List V → Hp → Prop, (∀ vs H', SmP p H H' → Pot p m H' → AllP Ps vs H' → Q vs H') → ta σ H Q
def EmT (p : Addr) (tt : TT) (σ : L2.St) (H : Hp) (m : Nat) (q : Bool → Prop) : Prop := ∀ Q : Bool → Hp → Prop, (∀ b H', SmP p H H' → Pot p m H' → q b → Q b H') → tt σ H Q
section
variable {K : PySem.W.Frag} {p : Addr} {σ : L2.St} {H : Hp} {te ta tb : TE} {tr as : TA} {tt : TT} {m n : Nat} {P A B : VP} {Ps : List VP} {D : Ends} {sp : Sp} {i j : Int} {ds : List PyData}
theorem em_ev (h : Ev te σ H P) (hp : Pot p m H) : Em p te σ H m P := fun Q q => h H (Same.refl _) _ fun v H1 s p1 => q v H1 (.of s) (hp.sm s) p1
theorem Em.imp {P' : VP} (h : Em p te σ H m P) (f : ∀ v H1, SmP p H H1 → Pot p m H1 → P v H1 → P' v H1) : Em p te σ H m P' := fun Q q => h _ fun v H1 s hp p1 => q v H1 s hp (f v H1 s hp p1)
theorem Em.mono (h : Em p te σ H m P) (l : m ≤ n) : Em p te σ H n P := fun Q q => h _ fun v H1 s hp p1 => q v H1 s (hp.mono l) p1
theorem ema_nil (hp : Pot p m H) : EmA p tNil σ H m [] := fun Q q => q [] H (.refl _) hp rfl
theorem ema_cons (h : Em p te σ H n P) (st : StP p P) (hr : ∀ H1, SmP p H H1 → Pot p n H1 → EmA p tr σ H1 m Ps) : EmA p (tCons te tr) σ H m (P :: Ps) := fun Q q => h _ fun v H1 s1 hp p1 => hr H1 s1 hp _ fun vs H2 s2 hp2 p2 => q (v :: vs) H2 (s1.trans s2) hp2 ⟨v, vs, rfl, st _ _ _ s2 p1, p2⟩
theorem ema_ev (h : EvA as σ H Ps) (hp : Pot p m H) : EmA p as σ H m Ps := fun Q q => h H (Same.refl _) _ fun vs H1 s p1 => q vs H1 (.of s) (hp.sm s) p1
theorem em_call (ha : EmA p as σ H n Ps) (hr : ∀ vs H1, SmP p H H1 → Pot p n H1 → AllP Ps vs H1 → ∀ Q : VK, (∀ v H2, SmP p H1 H2 → Pot p m H2 → P v H2 → Q v H2) → sp vs H1 Q E0) : Em p (tCall sp [] E0 as) σ H m P := fun Q q => ha _ fun vs H1 s1 hp p1 => by
  rw [List.append_nil]
  exact hr vs H1 s1 hp p1 Q fun v H2 s2 hp2 p2 => q v H2 (s1.trans s2) hp2 p2
theorem em_op {r : R2} (ha : Em p ta σ H n A) (st : StP p A) (hb : ∀ H1, SmP p H H1 → Pot p n H1 → Em p tb σ H1 m B) (hr : ∀ x y H1, Pot p m H1 → A x H1 → B y H1 → ∀ Q : VK, (∀ v H2, Same H1 H2 → P v H2 → Q v H2) → r x y H1 Q) : Em p (tOp r ta tb) σ H m P := fun Q q => ha _ fun x H1 s1 hp1 p1 => hb H1 s1 hp1 _ fun y H2 s2 hp2 p2 => hr x y H2 hp2 (st _ _ _ s2 p1) p2 Q fun v H3 s3 p3 => q v H3 ((s1.trans s2).trans (.of s3)) (hp2.sm s3) p3
theorem em_cb {r : List V → Hp → VK → Prop} (ha : EmA p as σ H m Ps) (hr : ∀ vs H1, Pot p m H1 → AllP Ps vs H1 → ∀ Q : VK, (∀ v H2, Same H1 H2 → P v H2 → Q v H2) → r vs H1 Q) : Em p (tCB r as) σ H m P := fun Q q => ha _ fun vs H1 s1 hp1 p1 => hr vs H1 hp1 p1 Q fun v H2 s2 p2 => q v H2 (s1.trans (.of s2)) (hp1.sm s2) p2
theorem em_take {k : Nat} {tj : TE} (e : σ[k]? = some (some (.ref p))) (h : Ev tj σ H (Dd (.int j))) (j0 : 0 < j) (j1 : j ≤ 1000) (hp : Pot p n H) (hn : n ≤ 10 ^ 15) : Em p (tCall spTake [] E0 (tCons (tVar k) (tCons tj tNil))) σ H (n + 1) (Nl j) := em_call (ema_ev (ea_x (ev_varX e) (ea_d h ea_nil)) hp) fun vs H1 s1 hp1 ⟨v, r, e1, p1, u, r2, e2, p2, e3⟩ Q q => by
  subst e1 e2 e3
  obtain rfl : v = .ref p := p1
  exact ⟨p, j, n, by rw [rp_int p2], j0, j1, hp1, hn, fun i H2 h0 h1 s2 hp2 => q _ H2 (.ofX hp1 s2) hp2 ⟨i, rfl, h0, h1⟩⟩
theorem em_add {a b : Int} (ha : Em p ta σ H n (Nl a)) (hb : ∀ H1, SmP p H H1 → Pot p n H1 → Em p tb σ H1 m (Nl b)) : Em p (tOp (rI0 fun i j => .int (i + j)) ta tb) σ H m (Nl (a + b)) := em_op ha (stp_nl _ _) hb fun x y H1 _ ⟨i, e1, a1, a2⟩ ⟨j, e2, b1, b2⟩ Q q => ⟨i, j, e1, e2, q _ H1 (Same.refl _) ⟨_, rfl, by omega, by omega⟩⟩
theorem em_lst (ha : EmA p as σ H m (ds.map Dd)) (hz : ds.length ≤ 100000) : Em p (tLst as) σ H m (LsP p ds) := fun Q q => ha _ fun vs H2 s2 hp p2 => by
  have r := allP_d (vs := vs) p2
  refine ⟨by rw [r.length]; exact Nat.le_trans hz (by decide), fun a ha => q _ _ (s2.trans (.of (same_new ha))) (hp.sm (same_new ha)) ⟨⟨a, vs, rfl, upd_same, r.sm (same_new ha)⟩, fun z => ?_⟩⟩
  cases z
  exact hp.ne ha
theorem s_setM {k : Nat} (h : Em p te σ H m P) (q : ∀ v H1, SmP p H H1 → Pot p m H1 → P v H1 → D.nx (σ.set k (some v)) H1) : tAsg te (gName k) D σ H := h _ q
theorem s_retM (h : Em p te σ H m P) (q : ∀ v H1, SmP p H H1 → Pot p m H1 → P v H1 → D.rt v H1) : tRet te D σ H := h _ q
theorem emt_test {q : Bool → Prop} (h : Em p te σ H m (fun v _ => ∃ b, v = .bl b ∧ q b)) : EmT p (tTest te) σ H m q := fun Q k => h _ fun v H1 s hp ⟨b, e, hq⟩ => ⟨b, e, k b H1 s hp hq⟩
theorem emt_ev {b : Bool} (h : EvT tt σ H b) (hp : Pot p m H) : EmT p tt σ H m (· = b) := fun Q k => h H (Same.refl _) _ fun H1 s => k b H1 (.of s) (hp.sm s) rfl
theorem em_if {q : Bool → Prop} (h : EmT p tt σ H n q) (h1 : q true → ∀ H1, SmP p H H1 → Pot p n H1 → Em p ta σ H1 m P) (h2 : q false → ∀ H1, SmP p H H1 → Pot p n H1 → Em p tb σ H1 m P) : Em p (tIf tt ta tb) σ H m P := fun Q k => h _ fun b H1 s hp hq => by
  cases b with
  | true => exact h1 hq H1 s hp _ fun v H2 s2 => k v H2 (s.trans s2)
  | false => exact h2 hq H1 s hp _ fun v H2 s2 => k v H2 (s.trans s2)
theorem s_ifM {tu tw : TS} {q : Bool → Prop} (h : EmT p tt σ H n q) (h1 : q true → ∀ H1, SmP p H H1 → Pot p n H1 → tu D σ H1) (h2 : q false → ∀ H1, SmP p H H1 → Pot p n H1 → tw D σ H1) : tIfS tt tu tw D σ H := h _ fun b H1 s hp hq => by
  cases b with
  | true => exact h1 hq H1 s hp
  | false => exact h2 hq H1 s hp
theorem emt_and {tu : TT} {q q' q'' : Bool → Prop} (h : EmT p tt σ H n q) (h2 : q true → ∀ H1, SmP p H H1 → Pot p n H1 → EmT p tu σ H1 m q') (l : n ≤ m) (ht : q true → ∀ b, q' b → q'' b) (hf : q false → q'' false) : EmT p (tAnd tt tu) σ H m q'' := fun Q k => h _ fun b H1 s hp hq => by
  cases b with
  | true => exact h2 hq H1 s hp _ fun c H2 s2 hp2 hc => k c H2 (s.trans s2) hp2 (ht hq c hc)
  | false => exact k false H1 s (hp.mono l) (hf hq)
theorem emt_or {tu : TT} {q q' q'' : Bool → Prop} (h : EmT p tt σ H n q) (h2 : q false → ∀ H1, SmP p H H1 → Pot p n H1 → EmT p tu σ H1 m q') (l : n ≤ m) (ht : q false → ∀ b, q' b → q'' b) (hf : q true → q'' true) : EmT p (tOr tt tu) σ H m q'' := fun Q k => h _ fun b H1 s hp hq => by
  cases b with
  | false => exact h2 hq H1 s hp _ fun c H2 s2 hp2 hc => k c H2 (s.trans s2) hp2 (ht hq c hc)
  | true => exact k true H1 s (hp.mono l) (hf hq)
theorem em_eqT {c : Int} (h : Em p te σ H m (Nl i)) : EmT p (tTest (tOp rEq te (tC (.int c)))) σ H m (fun _ => True) := emt_test (em_op h (stp_nl _ _) (fun H1 _ hp => em_ev (ev_int (i := c)) hp) fun x y H1 hp ⟨i, e1, _⟩ p2 Q q => by
  rw [e1, rp_int p2]
  exact ⟨rfl, q _ H1 (Same.refl _) ⟨_, rfl, trivial⟩⟩)
end
end Qt
/-! QLc: _law_pot, _law_pots, _law_of, _law_turned. -/
namespace Qt
open PySem PySem.Spec PyProof.Rows L2
section
variable {K : PySem.W.Frag} {p : Addr} {σ : L2.St} {H : Hp} {te ta tb : TE} {m n : Nat} {ds es : List PyData}
theorem ev_catLF (ha : Ev ta σ H (Ls ds)) (hb : Ev tb σ H (Ls es)) (hz : ds.length + es.length ≤ 100000) : Ev (tOp rCat ta tb) σ H (fun v H' => Ls (ds ++ es) v H' ∧ ∃ a, v = .ref a ∧ H a = none) := fun H0 s0 Q q => ha H0 s0 _ fun x H1 s1 p1 => hb H1 (s0.trans s1) _ fun y H2 s2 p2 => by
  obtain ⟨a, xs, rfl, a1, a2⟩ := stb_l _ _ _ _ s2 p1
  obtain ⟨b, ys, rfl, b1, b2⟩ := p2
  refine ⟨a, b, xs, ys, rfl, rfl, a1, b1, by rw [a2.length, b2.length]; exact Nat.le_trans hz (by decide), fun c hc => q _ _ ((s1.trans s2).trans (same_new hc)) ⟨⟨c, _, rfl, upd_same, (a2.append b2).sm (same_new hc)⟩, c, rfl, none_of ((s0.trans s1).trans s2) hc⟩⟩
theorem bsm (b : Bool) : ((if b = true then 1 else 0 : Int)).natAbs < 2 ^ 2 := by cases b <;> decide
theorem bmul0 {x : Int} (b : Bool) (h : 0 ≤ x) : 0 ≤ x * (if b = true then 1 else 0) := by
  cases b with
  | true => show 0 ≤ x * 1; omega
  | false => show 0 ≤ x * 0; omega
theorem bmul1 {x m : Int} (b : Bool) (h : 0 ≤ x) (h1 : x < m) : x * (if b = true then 1 else 0) < m := by
  cases b with
  | true => show x * 1 < m; omega
  | false => show x * 0 < m; omega
theorem rpAll_rev {H : Hp} : ∀ {ds : List PyData} {xs : List V}, RpAll H xs ds → RpAll H xs.reverse ds.reverse
  | [], _, h => by cases h; exact .nil
  | d :: ds, _, h => by
    cases h with
    | cons h1 h2 =>
      rw [List.reverse_cons, List.reverse_cons]
      exact (rpAll_rev h2).append (.one h1)
theorem ev_revF (h : Ev te σ H (Ls ds)) : Ev (tRevL K te) σ H (fun v H' => Ls ds.reverse v H' ∧ ∃ a, v = .ref a ∧ H a = none) := fun H0 s0 Q q => h H0 s0 _ fun x H1 s1 p1 => by
  obtain ⟨a, xs, rfl, a1, a2⟩ := p1
  refine ⟨a, xs, rfl, SqL.of a1, fun c hc => q _ _ (s1.trans (same_new hc)) ⟨⟨c, _, rfl, upd_same, ?_⟩, c, rfl, none_of (s0.trans s1) hc⟩⟩
  exact rpAll_rev (a2.sm (same_new hc))
theorem cutD_lo (ds : List PyData) {i : Int} (h : 0 ≤ i) : cutD ds (some i) none = ds.drop i.toNat := by
  unfold cutD
  show (ds.drop (if i < 0 then (i + (ds.length : Int)).toNat else min i.toNat ds.length)).take (ds.length - (if i < 0 then (i + (ds.length : Int)).toNat else min i.toNat ds.length)) = ds.drop i.toNat
  rw [if_neg (by omega)]
  rw [List.take_of_length_le (by rw [List.length_drop]; omega)]
  by_cases h1 : i.toNat ≤ ds.length
  · rw [Nat.min_eq_left h1]
  · rw [Nat.min_eq_right (by omega), List.drop_length, List.drop_eq_nil_of_le (by omega)]
theorem cutD_hi (ds : List PyData) {i : Int} (h : 0 ≤ i) : cutD ds none (some i) = ds.take i.toNat := by
  unfold cutD
  show (ds.drop 0).take ((if i < 0 then (i + (ds.length : Int)).toNat else min i.toNat ds.length) - 0) = ds.take i.toNat
  rw [if_neg (by omega), List.drop_zero, Nat.sub_zero]
  by_cases h1 : i.toNat ≤ ds.length
  · rw [Nat.min_eq_left h1]
  · rw [Nat.min_eq_right (by omega), List.take_length, List.take_of_length_le (by omega)]
/-- the script: a list of ints, perhaps of the world's -/
def ScrP (K : PySem.W.Frag) (cs : List Int) : VP := fun v H => ∃ a, v = .ref a ∧ SqL K H a (cs.map V.int)
theorem stb_scr (K : PySem.W.Frag) (cs : List Int) : Stb (ScrP K cs) := fun v H H' s ⟨a, e, h⟩ => ⟨a, e, h.elim (fun z => .inl (rd_sm s z)) .inr⟩
theorem ev_lenScr {cs : List Int} (h : Ev te σ H (ScrP K cs)) : Ev (tCB (rLenA K) (tCons te tNil)) σ H (Dd (.int cs.length)) := ev_len h (fun v H1 ⟨a, e, h⟩ => by
  rw [e]
  exact .inl ⟨_, h, (List.length_map _).symm⟩) (stb_scr K cs)
theorem ev_ixScr {cs : List Int} {j : Nat} {i x : Int} (ha : Ev ta σ H (ScrP K cs)) (hb : Ev tb σ H (Dd (.int i))) (hi : i = (j : Int)) (h : cs[j]? = some x) : Ev (tOp (rIxL K) ta tb) σ H (Dd (.int x)) := ev_op ha (stb_scr K cs) hb fun u v H1 s ⟨a, e, h1⟩ p2 Q q => by
  have hw : (cs.map V.int)[j]? = some (.int x) := by rw [List.getElem?_map, h] <;> rfl
  exact ⟨a, _, i, .int x, e, rp_int p2, h1, at_of hi hw, q _ H1 (Same.refl _) (.int _)⟩
theorem LsP.of {v : V} (hp : Pot p n H) (h : Ls ds v H) (hf : ∃ a, v = .ref a ∧ ∃ H0 : Hp, H0 a = none ∧ H0 p ≠ none) : LsP p ds v H := ⟨h, fun z => by
  obtain ⟨a, e, H0, h1, h2⟩ := hf
  rw [z] at e
  cases e
  exact h2 h1⟩
end
section
variable {P : Program} {w : World} {K : PySem.W.Frag} {mg : Str → Option Value} {base : Heap}
abbrev sPot : Stmt := top 54
theorem scPot : FnScope ["_law_script", "_law_k", "_law_cell", "_law_own"] ["_law_script", "_law_k"] (defScope sPot) := ⟨rfl, rfl, rfl, by decide +kernel, rfl, by decide +kernel, by decide +kernel⟩
def spPot (K : PySem.W.Frag) : Sp := fun vs H Q _ => ∃ (v1 : V) (k : Int) (cs : List Int), vs = [v1, .int k] ∧ ScrP K cs v1 H ∧ 0 ≤ k ∧ k < 1000 ∧ ∀ p H', Same H H' → H p = none → Pot p 0 H' → Q (.ref p) H'
theorem cal_pot (D : Std K mg "_law_pot" sPot) (T : Gc mg) : Cal P w K mg base "_law_pot" ["_law_script", "_law_k"] 1 (spPot K) := by
  refine D.cal scPot (fun vs H Q E h => ?_) (fun _ _ _ _ _ _ us hl => match us, hl with | [_, _], _ => rfl) (fun f cdv A outer s H vs Q E hr h => ?_)
  · obtain ⟨v1, k, cs, rfl, _⟩ := h
    rfl
  · obtain ⟨v1, k, cs, rfl, hl, k0, k1, k'⟩ := h
    have nd := scPot.nd
    refine ⟨_, (pss_cons (ps_set (i := 2) nd rfl (Or.inl rfl) (pe_ifExp (pt_cmpR op_lt (pv 1) (pe_callB (k_len (K := K)) (by rfl) T.b.len (by decide +kernel) (pa_cons (pv 0) pa_nil)) (nomark _)) (pe_ix (k_ixL (K := K)) (pv 0) (pv 1) (fun _ _ => rfl)) (pe_op op_add (pe_op op_mulB pe_int (pv 1)) pe_int)))
 (pss_cons (ps_set (i := 3) nd rfl (Or.inl rfl) (pe_op op_mulB (pe_op op_mod (pe_callTy call_int1 (by rfl) T.b.int (by decide +kernel) (pa_cons (pe_callB call_abs (by rfl) T.b.abs (by decide +kernel) (pa_cons (pv 2) pa_nil)) pa_nil)) (pe_op op_powB (pe_op op_powB pe_int pe_int) pe_int)) (pe_callTy call_int1 (by rfl) T.b.int (by decide +kernel) (pa_cons (pe_cmpR op_ge (pe_callB call_abs (by rfl) T.b.abs (by decide +kernel) (pa_cons (pv 2) pa_nil)) (pe_op op_powB pe_int pe_int) (nomark _)) pa_nil))))
 (pss_one (ps_ret (pe_lst (pa_cons (pv 3) (pa_cons (pe_op op_mod (pe_callTy call_int1 (by rfl) T.b.int (by decide +kernel) (pa_cons (pe_op op_add (pe_op op_add (pe_op op_mulB (pe_op op_mod (pe_callTy call_int1 (by rfl) T.b.int (by decide +kernel) (pa_cons (pv 2) pa_nil)) pe_int) pe_int) (pe_op op_mulB (pe_op op_mulB pe_int (pv 1)) (pv 1))) pe_int) pa_nil)) pe_int) (pa_cons pe_int pa_nil)))))))), ?_⟩
    refine s_set (P := fun v _ => ∃ c, v = .int c) (ev_if (et_test (ev_lt (ev_varI rfl) (ev_lenScr (ev_var rfl hl (stb_scr _ _))))) (fun e => ?_) (fun e => ?_)) fun v1' H1 s1 ⟨c, ec⟩ => ?_
    · have e' := of_decide_eq_true e
      obtain ⟨x, hx⟩ : ∃ x, cs[k.toNat]? = some x := ⟨_, List.getElem?_eq_getElem (by omega)⟩
      exact (ev_ixScr (K := K) (j := k.toNat) (ev_var rfl hl (stb_scr _ _)) (ev_varI rfl) (by omega) hx).imp fun v _ _ p => ⟨x, rp_int p⟩
    · exact (ev_add (ev_mulD (i := 43) (j := k) ev_int (ev_varI rfl) (wide_mul (a := 6) (b := 10) (by decide) (by omega) (by decide) (by decide) (by decide))) (ev_int (i := 29))).imp fun v _ _ p => ⟨_, rp_int p⟩
    subst ec
    refine nx_of ?_
    have hM : ((10 : Int) ^ (60 : Int).toNat) ^ (5 : Int).toNat = 10 ^ 300 := by decide +kernel
    have hab : ∀ c : Int, 0 ≤ (if c < 0 then -c else c) := fun c => by split <;> omega
    refine s_set (P := Nl (10 ^ 300)) ?_ fun v2 H2 s2 p2 => ?_
    · have e1 : Ev _ ((L2.start ["_law_script", "_law_k", "_law_cell", "_law_own"] [v1, .int k]).set 2 (some (.int c))) H1 _ := ev_modD (ev_int1 (ev_abs (ev_varI (i := 2) (x := c) rfl))) (ev_powD (ev_powD (ev_int (i := 10)) (ev_int (i := 60)) (by refine ⟨by decide, by decide +kernel⟩)) (ev_int (i := 5)) (by refine ⟨by decide, by decide +kernel⟩)) (by decide +kernel)
      rw [hM] at e1
      have b0 : 0 ≤ (if c < 0 then -c else c) % 10 ^ 300 := Int.emod_nonneg _ (by decide +kernel)
      have b1 : (if c < 0 then -c else c) % 10 ^ 300 < 10 ^ 300 := Int.emod_lt_of_pos _ (by decide +kernel)
      have e2 := ev_mulD e1 (ev_int1B (ev_ge (ev_abs (ev_varI (i := 2) (x := c) rfl)) (ev_powD (ev_int (i := 10)) (ev_int (i := 18)) (by refine ⟨by decide, by decide +kernel⟩)))) (wide_mul (a := 1000) (b := 2) (abs_lt b0 b1 (by decide +kernel)) (bsm _) (by decide) (by decide) (by decide))
      exact ev_nl e2 (bmul0 _ b0) (bmul1 _ b0 b1)
    refine nx_of ?_
    obtain ⟨own, rfl, o0, o1⟩ := p2
    have e3 : Ev _ (((L2.start ["_law_script", "_law_k", "_law_cell", "_law_own"] [v1, .int k]).set 2 (some (.int c))).set 3 (some (.int own))) H2 (Nl 2305843009213693921) := ev_modE (ev_int1P (ev_addN (ev_addN (ev_mulN (a := 61) (b := 17) (m := 2305843009213693951) (Ev.imp (ev_modD (ev_int1 (ev_varI (i := 2) (x := c) rfl)) (ev_int (i := 2305843009213693951)) (by decide)) fun v _ _ p => ⟨_, rp_int p, Int.emod_nonneg _ (by decide), Int.emod_lt_of_pos _ (by decide)⟩) (ev_nlc (i := 69389) (m := 69390) (by decide) (by decide)) (by decide) (by decide) (by decide) (by decide) (by decide)) (ev_mulN (a := 24) (b := 10) (ev_mulN (a := 13) (b := 10) (ev_nlc (i := 7561) (m := 7562) (by decide) (by decide)) (ev_nl (m := 1000) (ev_varI (i := 1) (x := k) rfl) k0 k1) (by decide) (by decide) (by decide) (by decide) (by decide)) (ev_nl (m := 1000) (ev_varI (i := 1) (x := k) rfl) k0 k1) (by decide) (by decide) (by decide) (by decide) (by decide))) (ev_nlc (i := 83) (m := 84) (by decide) (by decide)))) (ev_int (i := 2305843009213693921)) (by decide)
    refine ⟨.int own, rfl, ?_⟩
    refine e3 H2 (Same.refl _) _ fun vb H4 s4 ⟨sd, eb, d0, d1⟩ => ?_
    subst eb
    refine ⟨by show 3 ≤ sizeLine; decide, fun q hq => ?_⟩
    refine k' q _ ((s1.trans s2).trans (s4.trans (same_new hq))) (none_of ((s1.trans s2).trans s4) hq) ⟨own, sd, 0, upd_same, o0, o1, d0, ?_, Int.le_refl _, Int.le_refl _⟩
    exact Int.lt_trans d1 (by decide)
abbrev sOf : Stmt := top 57
theorem scOf : FnScope ["_law_pot_here", "_law_some"] ["_law_pot_here", "_law_some"] (defScope sOf) := ⟨rfl, rfl, rfl, by decide +kernel, rfl, by decide +kernel, by decide +kernel⟩
/-- a row of values -/
def SeqA (a : Addr) (xs : List V) (H : Hp) : Prop := H a = some (.lst xs) ∨ H a = some (.tup xs)
def spOf : Sp := fun vs H Q _ => ∃ (p : Addr) (v2 : V) (n : Nat), vs = [.ref p, v2] ∧ Pot p n H ∧ n ≤ 10 ^ 15 ∧ ((∃ a xs, v2 = .ref a ∧ a ≠ p ∧ SeqA a xs H ∧ xs ≠ [] ∧ xs.length ≤ 1000 ∧ ∀ x H', x ∈ xs → SmP p H H' → Pot p (n + 1) H' → Q x H') ∨ ∃ z : Str, v2 = .str z ∧ z.cps.toList ≠ [] ∧ z.cps.toList.length ≤ 1000 ∧ ∀ (c : Nat) H', c ∈ z.cps.toList → SmP p H H' → Pot p (n + 1) H' → Q (.str ⟨#[c]⟩) H')
theorem cal_of (D : Std K mg "_law_of" sOf) (T : Gc mg) (C_law_take : Cal P w K mg base "_law_take" ["_law_pot_here", "_law_upto"] 1 spTake) : Cal P w K mg base "_law_of" ["_law_pot_here", "_law_some"] 2 spOf := by
  refine D.cal scOf (fun vs H Q E h => ?_) (fun _ _ _ _ _ _ us hl => match us, hl with | [_, _], _ => rfl) (fun f cdv A outer s H vs Q E hr h => ?_)
  · obtain ⟨p, v2, n, rfl, _⟩ := h
    rfl
  · obtain ⟨p, v2, n, rfl, hp, hn, h⟩ := h
    have nd := scOf.nd
    refine ⟨_, (pss_one (ps_ret (pe_ix ix_seq (pv 1) (pe_cal C_law_take (hr.mono (by decide)) (pa_cons (pv 0) (pa_cons (pe_callB (k_len (K := K)) (by rfl) T.b.len (by decide +kernel) (pa_cons (pv 1) pa_nil)) pa_nil))) (fun _ _ => rfl)))), ?_⟩
    rcases h with ⟨a, xs, rfl, na, hs, hne, hz, k⟩ | ⟨z, rfl, hne, hz, k⟩
    · have len : ∀ H1, Same H H1 → Ev (tCB (rLenA K) (tCons (tVar 1) tNil)) (L2.start ["_law_pot_here", "_law_some"] [.ref p, .ref a]) H (Dd (.int xs.length)) := fun H1 s => ev_len (A := fun v H' => v = .ref a ∧ SeqA a xs H') (ev_var rfl ⟨rfl, hs⟩ fun v Ha Hb s ⟨e, h⟩ => ⟨e, h.imp (s _ _) (s _ _)⟩) (fun v H1 ⟨e, h⟩ => by
        rw [e]
        rcases h with h | h
        · exact .inl ⟨xs, SqL.of h, rfl⟩
        · exact .inr ⟨xs, SqT.of h, rfl⟩) (fun v Ha Hb s ⟨e, h⟩ => ⟨e, h.imp (s _ _) (s _ _)⟩)
      refine ⟨.ref a, rfl, ?_⟩
      refine em_take (σ := L2.start ["_law_pot_here", "_law_some"] [.ref p, .ref a]) (k := 0) (j := xs.length) rfl (len H (Same.refl _)) (by have := List.length_pos_iff.mpr hne; omega) (by omega) hp hn _ fun vi H1 s1 hp1 ⟨i, e, i0, i1⟩ => ?_
      subst e
      have hl : i.toNat < xs.length := by omega
      have hat : atI xs i = some xs[i.toNat] := by
        unfold atI
        rw [ixN_nn i0 i1]
        exact List.getElem?_eq_getElem hl
      have kk := k xs[i.toNat] H1 (List.getElem_mem hl) s1 hp1
      rcases hs with hs | hs
      · exact .inl ⟨a, xs, i, _, rfl, rfl, SqL.of (s1.x _ _ na hs), hat, kk⟩
      · exact .inr (.inl ⟨a, xs, i, _, rfl, rfl, SqT.of (s1.x _ _ na hs), hat, kk⟩)
    · refine ⟨.str z, rfl, ?_⟩
      have hzz : z.length = z.cps.toList.length := by
        show z.cps.size = _
        exact (Array.length_toList).symm
      refine em_take (σ := L2.start ["_law_pot_here", "_law_some"] [.ref p, .str z]) (k := 0) (j := z.length) rfl (ev_lenS (K := K) (ev_varS (i := 1) rfl) (by omega)) (by have := List.length_pos_iff.mpr hne; omega) (by omega) hp hn _ fun vi H1 s1 hp1 ⟨i, e, i0, i1⟩ => ?_
      subst e
      have hl : i.toNat < z.cps.toList.length := by omega
      have hat : atI z.cps.toList i = some z.cps.toList[i.toNat] := by
        unfold atI
        rw [ixN_nn i0 (by omega)]
        exact List.getElem?_eq_getElem hl
      exact .inr (.inr ⟨z, i, _, rfl, rfl, by rw [hzz]; exact Nat.le_trans hz (by decide), hat, k _ H1 (List.getElem_mem hl) s1 hp1⟩)
section
variable {p : Addr} {σ : L2.St} {H : Hp} {as : TA} {m n : Nat} {ds : List PyData}
/-- what is drawn of a row of data -/
theorem em_of {A : VP} (ha : EmA p as σ H n [Ex (.ref p), A]) (hA : ∀ v H1, Pot p n H1 → A v H1 → LsP p ds v H1 ∨ Dd (.tuple ds) v H1) (hne : ds ≠ []) (hz : ds.length ≤ 1000) (hn : n ≤ 10 ^ 15) : Em p (tCall spOf [] E0 as) σ H (n + 1) (fun v H' => ∃ d, d ∈ ds ∧ Rp H' v d) := em_call ha fun vs H1 s1 hp1 ⟨v, r, e1, p1, u, r2, e2, p2, e3⟩ Q q => by
  subst e1 e2 e3
  obtain rfl : v = .ref p := p1
  have : ∃ a xs, u = .ref a ∧ a ≠ p ∧ SeqA a xs H1 ∧ RpAll H1 xs ds := by
    rcases hA u H1 hp1 p2 with ⟨⟨a, xs, e, h1, h2⟩, h3⟩ | h
    · exact ⟨a, xs, e, fun z => h3 (by rw [e, z]), .inl h1, h2⟩
    · obtain ⟨a, xs, e, h1, h2⟩ := rp_tup h
      exact ⟨a, xs, e, fun z => hp1.tup xs (z ▸ h1), .inr h1, h2⟩
  obtain ⟨a, xs, rfl, na, hs, hr⟩ := this
  refine ⟨p, .ref a, n, rfl, hp1, hn, .inl ⟨a, xs, rfl, na, hs, fun z => hne ?_, by rw [hr.length]; exact hz, fun x H2 hx s2 hp2 => q x H2 s2 hp2 ?_⟩⟩
  · have := hr.length
    rw [z] at this
    exact List.length_eq_zero_iff.mp this.symm
  · obtain ⟨i, hi⟩ := List.getElem?_of_mem hx
    obtain ⟨d, hd, rd⟩ := hr.at_ hi
    exact ⟨d, List.mem_of_getElem? hd, rd.up s2.t⟩
end
abbrev sTurned : Stmt := top 58
theorem scTurned : FnScope ["_law_pot_here", "_law_some", "_law_at", "_law_row"] ["_law_pot_here", "_law_some"] (defScope sTurned) := ⟨rfl, rfl, rfl, by decide +kernel, rfl, by decide +kernel, by decide +kernel⟩
def spTurned : Sp := fun vs H Q _ => ∃ (p : Addr) (v2 : V) (n : Nat) (ds : List PyData), vs = [.ref p, v2] ∧ Pot p n H ∧ n < 10 ^ 15 ∧ LsP p ds v2 H ∧ ds ≠ [] ∧ ds.length ≤ 1000 ∧ ∀ v H' ds', SmP p H H' → Pot p (n + 2) H' → LsP p ds' v H' → ds'.Perm ds → Q v H'
theorem cal_turned (D : Std K mg "_law_turned" sTurned) (T : Gc mg) (C_law_take : Cal P w K mg base "_law_take" ["_law_pot_here", "_law_upto"] 1 spTake) : Cal P w K mg base "_law_turned" ["_law_pot_here", "_law_some"] 2 spTurned := by
  refine D.cal scTurned (fun vs H Q E h => ?_) (fun _ _ _ _ _ _ us hl => match us, hl with | [_, _], _ => rfl) (fun f cdv A outer s H vs Q E hr h => ?_)
  · obtain ⟨p, v2, n, ds, rfl, _⟩ := h
    rfl
  · obtain ⟨p, v2, n, ds, rfl, hp, hn, hl, hne, hz, k⟩ := h
    have nd := scTurned.nd
    refine ⟨_, (pss_cons (ps_set (i := 2) nd rfl (Or.inl rfl) (pe_cal C_law_take (hr.mono (by decide)) (pa_cons (pv 0) (pa_cons (pe_callB (k_len (K := K)) (by rfl) T.b.len (by decide +kernel) (pa_cons (pv 1) pa_nil)) pa_nil))))
 (pss_cons (ps_set (i := 3) nd rfl (Or.inl rfl) (pe_op op_cat (pe_slice (k_slL (K := K)) (pv 1) (po_some (pv 2)) po_none) (pe_slice (k_slL (K := K)) (pv 1) po_none (po_some (pv 2)))))
 (pss_one (ps_ret (pe_ifExp (pt_cmpR op_eq (pe_cal C_law_take (hr.mono (by decide)) (pa_cons (pv 0) (pa_cons pe_int pa_nil))) pe_int (nomark _)) (k_revL (K := K) (pv 3)) (pv 3)))))), ?_⟩
    have hpos := List.length_pos_iff.mpr hne
    refine s_setM (em_take (k := 0) (j := ds.length) rfl (ev_lenL (K := K) (ev_var (i := 1) rfl hl.1 (stb_l _))) (by omega) (by omega) hp (by omega)) fun v1 H1 s1 hp1 ⟨i, e, i0, i1⟩ => ?_
    subst e
    refine nx_of ?_
    have hl1 := stp_lsP _ _ _ _ _ s1 hl
    refine s_set (P := fun v H' => Ls (cutD ds (some i) none ++ cutD ds none (some i)) v H' ∧ ∃ a, v = .ref a ∧ H1 a = none) (ev_catLF (ev_slL (ev_var rfl hl1.1 (stb_l _)) (eo_some (ev_varI rfl)) eo_none) (ev_slL (ev_var rfl hl1.1 (stb_l _)) eo_none (eo_some (ev_varI rfl))) (by have h1 := cutD_len ds (some i) none; have h2 := cutD_len ds none (some i); omega)) fun v3 H2 s2 ⟨p3, f3⟩ => ?_
    refine nx_of ?_
    have pm : (cutD ds (some i) none ++ cutD ds none (some i)).Perm ds := by
      rw [cutD_lo ds i0, cutD_hi ds i0]
      exact List.perm_append_comm.trans (by rw [List.take_append_drop])
    generalize cutD ds (some i) none ++ cutD ds none (some i) = row at p3 pm
    have l3 : LsP p row v3 H2 := ⟨p3, fun z => by
      obtain ⟨a, e, h⟩ := f3
      rw [z] at e
      cases e
      exact hp1.ne h⟩
    have hp2 := hp1.sm s2
    refine s_retM (m := n + 2) (P := fun v H' => ∃ ds', LsP p ds' v H' ∧ ds'.Perm ds) (em_if (q := fun _ => True) (em_eqT (em_take (k := 0) (j := 2) rfl ev_int (by decide) (by decide) hp2 (by omega))) (fun _ H3 s3 hp3 => ?_) (fun _ H3 s3 hp3 => ?_)) fun v H4 s4 hp4 ⟨ds', p4, q4⟩ => k v H4 ds' ((s1.trans (.of s2)).trans s4) hp4 p4 q4
    · refine em_ev ((ev_revF (ev_var rfl (stp_lsP _ _ _ _ _ s3 l3).1 (stb_l _))).imp fun v H5 s5 ⟨q1, a, e, h⟩ => ⟨row.reverse, ⟨q1, fun z => ?_⟩, (List.reverse_perm row).trans pm⟩) hp3
      rw [z] at e
      cases e
      exact hp3.ne h
    · exact em_ev ((ev_var rfl (stp_lsP _ _ _ _ _ s3 l3) (stb_lsP _ _)).imp fun v H5 s5 h => ⟨row, h, pm⟩) hp3
end
end Qt
/-! QLd: comprehensions over a range; _law_names, _law_far. -/
namespace Qt
open PySem PySem.Spec PyProof.Rows L2
section
variable {K : PySem.W.Frag} {p : Addr} {σ : L2.St} {H : Hp} {te ta tb : TE} {tr : TA} {m n k b : Nat} {ds : List PyData} {Pe : PyData → Prop}
/-- [e for i in range(b)], e draws at most k each time -/
theorem em_lcR {j : Nat} {vs : List Nat} (ha : EmA p tr σ H n [Nl b]) (hb : b ≤ 1000) (hw : ∀ v, wipe ((wipe σ vs).set j (some v)) vs = wipe σ vs)
    (turn : ∀ (i : Nat) H1 c, i < b → SmP p H H1 → Pot p c H1 → c + k ≤ n + b * k → Em p te ((wipe σ vs).set j (some (.int i))) H1 (c + k) (fun v H' => ∃ d, Pe d ∧ Rp H' v d)) :
    Em p (tLc (iRng1 tr) (gName j) tYes te vs) σ H (n + b * k) (fun v H' => ∃ ds : List PyData, LsP p ds v H' ∧ ds.length < b ∧ ∀ d ∈ ds, Pe d) := fun Q q => ha _ fun us H1 s1 hp1 ⟨v, r, e1, ⟨i0, e0, z0, z1⟩, e2⟩ => by
  subst e1 e2 e0
  obtain ⟨N, rfl⟩ : ∃ N : Nat, i0 = N := ⟨i0.toNat, by omega⟩
  refine ⟨N, rfl, by omega, by omega, fun D hD => ?_⟩
  have nD : p ≠ D := fun z => hp1.ne (z ▸ hD)
  rw [Int.toNat_natCast]
  refine lc_range (fun i H' => H1 D = none ∧ SmP p H1 H' ∧ Pot p (n + i * k) H' ∧ ∃ ys ds, H' D = some (.lst ys) ∧ RpAll H' ys ds ∧ ds.length = i ∧ ∀ d ∈ ds, Pe d) ⟨hD, .of (same_new hD), by rw [Nat.zero_mul]; exact hp1.sm (same_new hD), [], [], upd_same, .nil, rfl, fun _ z => by cases z⟩ (fun i H' hi p => ⟨hw _, ?_⟩) (fun H' p => ?_)
  · obtain ⟨p1, p2, p3, ys, es, p4, p5, p6, p7⟩ := p
    rw [Int.zero_add]
    show te _ H' _
    have hk : n + i * k + k ≤ n + b * k := by
      have : (i + 1) * k ≤ b * k := Nat.mul_le_mul_right k (by omega)
      rw [Nat.succ_mul] at this
      omega
    refine turn i H' _ (by omega) (s1.trans p2) p3 hk _ fun y H4 s4 hp4 ⟨d, hd, rd⟩ => ?_
    have e4 := s4.x _ _ (Ne.symm nD) p4
    have tk : Tk H4 (upd H4 D (.lst (ys ++ [y]))) := tk_upd fun xs z => by rw [e4] at z; cases z
    refine ⟨ys, e4, ?_, p1, ⟨fun a u na h => ?_, (p2.t.trans s4.t).trans tk⟩, ?_, ys ++ [y], es ++ [d], upd_same, ((p5.up s4.t).up tk).append (.one (Rp.up rd tk)), ?_, fun e he => ?_⟩
    · rw [p5.length, p6]
      exact Nat.lt_of_lt_of_le (show i < 1000 by omega) (by decide)
    · rw [upd_ne (ne_of_none h p1)]
      exact s4.x _ _ na (p2.x _ _ na h)
    · have : n + (i + 1) * k = n + i * k + k := by rw [Nat.succ_mul]; omega
      rw [this]
      obtain ⟨o, sd, c, h1, h2⟩ := hp4
      exact ⟨o, sd, c, by rw [upd_ne nD]; exact h1, h2⟩
    · rw [List.length_append, List.length_singleton, p6]
    · rcases List.mem_append.mp he with he | he
      · exact p7 e he
      · rw [List.mem_singleton.mp he]
        exact hd
  · obtain ⟨p1, p2, p3, ys, es, p4, p5, p6, p7⟩ := p
    exact q _ H' (s1.trans p2) (p3.mono (Nat.add_le_add_left (Nat.mul_le_mul_right k (by omega)) n)) ⟨es, ⟨⟨D, ys, rfl, p4, p5⟩, fun z => by cases z; exact nD rfl⟩, by omega, p7⟩
/-- [e for i in range(N)], pure -/
theorem ev_lcR {j : Nat} {vs : List Nat} {N : Nat} (g : Nat → PyData) (h : EvA tr σ H [Dd (.int N)]) (hz : N ≤ 50000) (hw : ∀ v, wipe ((wipe σ vs).set j (some v)) vs = wipe σ vs)
    (turn : ∀ i H1, i < N → Same H H1 → Ev te ((wipe σ vs).set j (some (.int i))) H1 (Dd (g i))) :
    Ev (tLc (iRng1 tr) (gName j) tYes te vs) σ H (Ls ((List.range N).map g)) := fun H0 s0 Q q => h H0 s0 _ fun us H1 s1 ⟨v, r, e1, p0, e2⟩ => by
  subst e1 e2
  refine ⟨N, by rw [rp_int p0], by omega, by omega, fun D hD => ?_⟩
  rw [Int.toNat_natCast]
  refine lc_range (fun i H' => H1 D = none ∧ Same H1 H' ∧ ∃ ys, H' D = some (.lst ys) ∧ RpAll H' ys ((List.range i).map g)) ⟨hD, same_new hD, [], upd_same, .nil⟩ (fun i H' hi p => ⟨hw _, ?_⟩) (fun H' p => ?_)
  · obtain ⟨p1, p2, ys, p4, p5⟩ := p
    rw [Int.zero_add]
    show te _ H' _
    refine turn i H' hi ((s0.trans s1).trans p2) H' (Same.refl _) _ fun y H4 s4 rd => ?_
    have e4 := s4 _ _ p4
    have tk : Tk H4 (upd H4 D (.lst (ys ++ [y]))) := tk_upd fun xs z => by rw [e4] at z; cases z
    refine ⟨ys, e4, ?_, p1, same_mut (p2.trans s4) p1, ys ++ [y], upd_same, ?_⟩
    · rw [p5.length, List.length_map, List.length_range]
      exact Nat.lt_of_lt_of_le (show i < 50000 by omega) (by decide)
    · rw [List.range_succ, List.map_append]
      exact ((p5.sm s4).up tk).append (.one (Rp.up rd tk))
  · obtain ⟨p1, p2, ys, p4, p5⟩ := p
    exact q _ H' (s1.trans p2) ⟨D, ys, rfl, p4, p5⟩
/-- a, b = e, e' -/
theorem s_unpM2 {D : Ends} {A B : VP} {i j : Nat} (h : EmA p tr σ H m [A, B]) (sa : Stb A) (sb : Stb B) (q : ∀ v w H1, SmP p H H1 → Pot p m H1 → A v H1 → B w H1 → D.nx ((σ.set i (some v)).set j (some w)) H1) : tAsg (tTup tr) (gTup K 2 (gCons (gName i) (gCons (gName j) gNil))) D σ H := h _ fun vs H1 s1 hp1 ⟨v, r, e1, p1, w, r2, e2, p2, e3⟩ => by
  subst e1 e2 e3
  refine ⟨by show 2 ≤ sizeLine; decide, fun t ht => ?_⟩
  have s2 := same_new (o := .tup [v, w]) ht
  exact ⟨t, _, rfl, SqT.of upd_same, rfl, v, [w], rfl, w, [], rfl, rfl, q v w _ (s1.trans (.of s2)) (hp1.sm s2) (sa _ _ _ s2 p1) (sb _ _ _ s2 p2)⟩
theorem ev_slS {z : Str} {t1 t2 : TO} {lo hi : Option Int} (h : Ev te σ H (Dd (.str z))) (hz : z.cps.toList.length ≤ 100000) (h1 : EvO t1 σ H lo) (h2 : EvO t2 σ H hi) : Ev (tSl rSlS te t1 t2) σ H (Dd (.str (cutS z lo hi))) := fun H0 s0 Q q =>
  h H0 s0 _ fun v H1 s1 p1 => h1 H1 (s0.trans s1) _ fun H2 s2 => h2 H2 ((s0.trans s1).trans s2) _ fun H3 s3 => ⟨z, rp_str p1, by
    show z.cps.size ≤ sizeLine
    rw [← Array.length_toList]
    exact Nat.le_trans hz (by decide), q _ H3 ((s1.trans s2).trans s3) (.str _)⟩
theorem ev_ixS {z : Str} {i : Int} (ha : Ev ta σ H (Dd (.str z))) (hb : Ev tb σ H (Dd (.int i))) (hz : z.cps.toList.length ≤ 100000) (h0 : 0 ≤ i) (h1 : i < z.cps.toList.length) : Ev (tOp rIxS ta tb) σ H (Dd (.str ⟨#[z.cps.toList.getD i.toNat 0]⟩)) := ev_op ha (stb_d _) hb fun x y H1 s p1 p2 Q q => by
  refine ⟨z, i, _, rp_str p1, rp_int p2, ?_, ?_, q _ H1 (Same.refl _) (.str _)⟩
  · show z.cps.size ≤ sizeLine
    rw [← Array.length_toList]
    exact Nat.le_trans hz (by decide)
  · have hl : i.toNat < z.cps.toList.length := by omega
    unfold atI
    rw [ixN_nn h0 h1]
    show z.cps.toList[i.toNat]? = _
    rw [List.getD_eq_getElem?_getD, List.getElem?_eq_getElem hl] <;> rfl
end
def G1 : VP := fun v _ => ∃ i : Int, v = .int i ∧ 1 ≤ i
/-! ### names -/
theorem app_toList (x y : Str) : (x ++ y).cps.toList = x.cps.toList ++ y.cps.toList := by
  show (x.cps ++ y.cps).toList = _
  exact Array.toList_append
theorem join_len1' (e : Str) (he : e.cps.toList = []) : ∀ (ys : List Str), (∀ y ∈ ys, ∃ c, c ∈ letters.cps.toList ∧ y = (⟨#[c]⟩ : Str)) → (Str.join e ys).cps.toList.length = ys.length ∧ ∀ c ∈ (Str.join e ys).cps.toList, c ∈ letters.cps.toList
  | [], _ => ⟨rfl, fun c h => by cases h⟩
  | [y], h => by
    obtain ⟨c, hc, rfl⟩ := h y List.mem_cons_self
    exact ⟨rfl, fun d hd => by
      have : d ∈ [c] := hd
      rw [List.mem_singleton.mp this]; exact hc⟩
  | y :: z :: r, h => by
    obtain ⟨c, hc, rfl⟩ := h y List.mem_cons_self
    have ih := join_len1' e he (z :: r) fun y hy => h y (List.mem_cons_of_mem _ hy)
    have e1 : (Str.join e ((⟨#[c]⟩ : Str) :: z :: r)).cps.toList = c :: (Str.join e (z :: r)).cps.toList := by
      show ((⟨#[c]⟩ : Str) ++ e ++ Str.join e (z :: r)).cps.toList = _
      rw [app_toList, app_toList, he] <;> rfl
    rw [e1]
    refine ⟨by rw [List.length_cons, ih.1] <;> rfl, fun d hd => ?_⟩
    rcases List.mem_cons.mp hd with rfl | hd
    · exact hc
    · exact ih.2 d hd
theorem join_len1 (ys : List Str) (h : ∀ y ∈ ys, ∃ c, c ∈ letters.cps.toList ∧ y = (⟨#[c]⟩ : Str)) : (Txt.join (Str.ofString "") ys).cps.toList.length = ys.length ∧ ∀ c ∈ (Txt.join (Str.ofString "") ys).cps.toList, c ∈ letters.cps.toList := by
  have e : Txt.join (Str.ofString "") ys = Str.join (Str.ofString "") ys := PySem.StrLaws.glued_eq_join _ _
  rw [e]
  exact join_len1' _ (by decide +kernel) ys h
def lcp (i : Nat) : Nat := letters.cps.toList.getD (i % 26) 0
theorem lcp_mem (i : Nat) : lcp i ∈ letters.cps.toList := by
  have h : letters.cps.toList.length = 26 := by decide +kernel
  have h2 : i % 26 < letters.cps.toList.length := by omega
  unfold lcp
  rw [List.getD_eq_getElem?_getD, List.getElem?_eq_getElem h2]
  exact List.getElem_mem h2
theorem lcp_ne : ∀ a < 26, lcp a ≠ lcp (a + 5) := by decide +kernel
/-- the k-th name -/
def nmk (stem : Str) (spot : Int) (at_ k : Nat) : Str := cutS stem none (some spot) ++ (⟨#[lcp (at_ + 5 * k)]⟩ : Str) ++ cutS stem (some spot) none
theorem len_toList (z : Str) : z.length = z.cps.toList.length := (Array.length_toList).symm
theorem cutS_lo (z : Str) {i : Int} (h : 0 ≤ i) (h1 : i ≤ z.cps.toList.length) : (cutS z (some i) none).cps.toList = z.cps.toList.drop i.toNat := by
  unfold cutS
  rw [List.toList_toArray, len_toList]
  show (z.cps.toList.drop (if i < 0 then (i + (z.cps.toList.length : Int)).toNat else min i.toNat z.cps.toList.length)).take (z.cps.toList.length - (if i < 0 then (i + (z.cps.toList.length : Int)).toNat else min i.toNat z.cps.toList.length)) = z.cps.toList.drop i.toNat
  rw [if_neg (by omega), Nat.min_eq_left (by omega), List.take_of_length_le (by rw [List.length_drop]; omega)]
theorem cutS_hi (z : Str) {i : Int} (h : 0 ≤ i) (h1 : i ≤ z.cps.toList.length) : (cutS z none (some i)).cps.toList = z.cps.toList.take i.toNat := by
  unfold cutS
  rw [List.toList_toArray, len_toList]
  show (z.cps.toList.drop 0).take ((if i < 0 then (i + (z.cps.toList.length : Int)).toNat else min i.toNat z.cps.toList.length) - 0) = z.cps.toList.take i.toNat
  rw [if_neg (by omega), List.drop_zero, Nat.sub_zero, Nat.min_eq_left (by omega)]
theorem nmk_toList {stem : Str} {spot : Int} {at_ k : Nat} (h : 0 ≤ spot) (h1 : spot ≤ stem.cps.toList.length) : (nmk stem spot at_ k).cps.toList = stem.cps.toList.take spot.toNat ++ [lcp (at_ + 5 * k)] ++ stem.cps.toList.drop spot.toNat := by
  unfold nmk
  rw [app_toList, app_toList, cutS_lo _ h h1, cutS_hi _ h h1]
theorem nmk_nm {stem : Str} {spot : Int} {at_ k : Nat} (h : 0 ≤ spot) (h1 : spot ≤ stem.cps.toList.length) (h7 : stem.cps.toList.length ≤ 7) (hs : ∀ c ∈ stem.cps.toList, c ∈ letters.cps.toList) : Nm (nmk stem spot at_ k) := by
  have e := nmk_toList (at_ := at_) (k := k) h h1
  have l : (nmk stem spot at_ k).length = stem.cps.toList.length + 1 := by
    rw [len_toList, e, List.length_append, List.length_append, List.length_take, List.length_drop, List.length_singleton]
    omega
  refine ⟨by omega, by omega, fun c hc => ?_⟩
  rw [e] at hc
  rcases List.mem_append.mp hc with hc | hc
  · rcases List.mem_append.mp hc with hc | hc
    · exact hs c (List.mem_of_mem_take hc)
    · rw [List.mem_singleton.mp hc]
      exact lcp_mem _
  · exact hs c (List.mem_of_mem_drop hc)
theorem nmk_ne {stem : Str} {spot : Int} {at_ : Nat} (h : 0 ≤ spot) (h1 : spot ≤ stem.cps.toList.length) (ha : at_ < 26) : nmk stem spot at_ 0 ≠ nmk stem spot at_ 1 := fun z => by
  have e := congrArg (fun s : Str => s.cps.toList) z
  simp only [nmk_toList h h1] at e
  have e2 := List.append_cancel_right e
  have e3 := List.append_cancel_left e2
  injection e3 with e4
  exact lcp_ne at_ ha e4
theorem Nm.ok {x : Str} (h : Nm x) : PyData.strOk x = true := by
  unfold PyData.strOk
  rw [← Array.all_toList, List.all_eq_true]
  intro c hc
  have h1 := h.sg c hc
  have h2 : ∀ c ∈ letters.cps.toList, c < 0x110000 := by decide +kernel
  exact decide_eq_true (h2 c h1)
section
variable {P : Program} {w : World} {K : PySem.W.Frag} {mg : Str → Option Value} {base : Heap}
abbrev sNames : Stmt := top 59
theorem scNames : FnScope ["_law_pot_here", "_law_many", "_law_small", "_law_stem", "_law_found", "_law_spot", "_law_at", "_law_k", "_law_turn"] ["_law_pot_here", "_law_many"] (defScope sNames) := ⟨rfl, rfl, rfl, by decide +kernel, rfl, by decide +kernel, by decide +kernel⟩
def spNames : Sp := fun vs H Q _ => ∃ (p : Addr) (many n : Nat), vs = [.ref p, .int many] ∧ Pot p n H ∧ n + 11 ≤ 10 ^ 15 ∧ 2 ≤ many ∧ many ≤ 5 ∧ ∀ v H' ys, SmP p H H' → Pot p (n + 11) H' → Ls (ys.map PyData.str) v H' → RsOk ys → ys.length ≤ 5 → Q v H'
theorem cal_names (D : Std K mg "_law_names" sNames) (T : Gc mg) (C_law_take : Cal P w K mg base "_law_take" ["_law_pot_here", "_law_upto"] 1 spTake) (C_law_of : Cal P w K mg base "_law_of" ["_law_pot_here", "_law_some"] 2 spOf) : Cal P w K mg base "_law_names" ["_law_pot_here", "_law_many"] 3 spNames := by
  refine D.cal scNames (fun vs H Q E h => ?_) (fun _ _ _ _ _ _ us hl => match us, hl with | [_, _], _ => rfl) (fun f cdv A outer s H vs Q E hr h => ?_)
  · obtain ⟨p, many, n, rfl, _⟩ := h
    rfl
  · obtain ⟨p, many, n, rfl, hp, hn, m2, m5, k⟩ := h
    have nd := scNames.nd
    refine ⟨_, (pss_cons (ps_set (i := 2) nd rfl (Or.inr rfl) pe_str)
 (pss_cons (ps_set (i := 3) nd rfl (Or.inr rfl) (pe_join pe_str (pe_lc (own := [("_law_turn", 8)]) rfl nd (pi_range1 (by rfl) T.b.range (pa_cons (pe_cal C_law_of (hr.mono (by decide)) (pa_cons (pv 0) (pa_cons (pe_lst (pa_cons pe_int (pa_cons pe_int (pa_cons pe_int (pa_cons pe_int (pa_cons pe_int (pa_cons pe_int (pa_cons pe_int (pa_cons pe_int (pa_cons pe_int pa_nil)))))))))) pa_nil))) pa_nil)) (blkOk_by (by kernel_rfl)) (fun _ _ _ _ _ => (pg_name (i := 8) nd rfl (Or.inl rfl))) (fun _ _ _ _ _ => pts_nil) (fun _ _ _ _ _ => (pe_cal C_law_of (hr.mono (by decide)) (pa_cons (pv 0) (pa_cons (pv 2) pa_nil)))))))
 (pss_cons (ps_asg (pe_tup (pa_cons (pe_cal C_law_take (hr.mono (by decide)) (pa_cons (pv 0) (pa_cons (pe_op op_add (pe_callB (k_len (K := K)) (by rfl) T.b.len (by decide +kernel) (pa_cons (pv 3) pa_nil)) pe_int) pa_nil))) (pa_cons (pe_cal C_law_take (hr.mono (by decide)) (pa_cons (pv 0) (pa_cons pe_int pa_nil))) pa_nil))) (k_tgT (K := K) (n := 2) rfl (pgs_cons (pg_name (i := 5) nd rfl (Or.inr rfl)) (pgs_cons (pg_name (i := 6) nd rfl (Or.inr rfl)) pgs_nil))))
 (pss_cons (ps_setLc (i := 4) (own := [("_law_k", 7)]) rfl nd rfl rfl (sw_true rfl rfl rfl (by decide +kernel)) (pi_range1 (by rfl) T.b.range (pa_cons (pv 1) pa_nil)) (blkOk_by (by kernel_rfl)) (fun _ _ _ _ _ => (pg_name (i := 7) nd rfl (Or.inl rfl))) (fun _ _ _ _ _ => pts_nil) (fun _ _ _ _ _ => (pe_op op_add_str (pe_op op_add_str (pe_slice sl_str (pv 3) po_none (po_some (pv 5))) (pe_ix ix_str (pv 2) (pe_op op_mod (pe_callTy call_int1 (by rfl) T.b.int (by decide +kernel) (pa_cons (pe_op op_add (pv 6) (pe_op op_mulB pe_int (pv 7))) pa_nil)) pe_int) (fun _ _ => rfl))) (pe_slice sl_str (pv 3) (po_some (pv 5)) po_none))))
 (pss_one (ps_ret (pe_ssS (K := K) rfl hr.units (by rfl) T.b.sorted (by rfl) T.b.set (pv 4)))))))), ?_⟩
    refine s_set (P := Ex (.str letters)) (ev_c fun _ => rfl) fun v0 H0 s0 p0 => ?_
    obtain rfl : v0 = .str letters := p0
    refine nx_of ?_
    have hp0 := hp.sm s0
    -- the stem
    refine s_setM (p := p) (m := n + 1 + 8 * 1) (P := fun v _ => ∃ z : Str, v = .str z ∧ z.cps.toList.length ≤ 7 ∧ ∀ c ∈ z.cps.toList, c ∈ letters.cps.toList) (fun Q' q' => ?_) fun vs' H1 s1 hp1 ⟨stem, e1, st7, sl⟩ => ?_
    · refine ⟨⟨_, rfl⟩, ?_⟩
      refine em_lcR (p := p) (n := n + 1) (k := 1) (b := 8) (Pe := fun d => ∃ c, c ∈ letters.cps.toList ∧ d = .str ⟨#[c]⟩) (ema_cons (P := Nl 8) ?_ (stp_nl _ _) fun H1 s1 hp1 => ema_nil hp1) (by decide) (fun _ => rfl) (fun i H1 c hi s1 hp1 hc => ?_) _ fun v H1 s1 hp1 ⟨ds, hl, h8, hd⟩ => ?_
      · refine (em_of (p := p) (n := n) (A := LsP p ([0, 0, 1, 2, 3, 4, 5, 6, 7].map PyData.int)) (ema_cons (em_ev (ev_varX rfl) hp0) (stp_x _ _) fun H1 s1 hp1 => ema_cons (em_lst (ema_ev (ea_d ev_int (ea_d ev_int (ea_d ev_int (ea_d ev_int (ea_d ev_int (ea_d ev_int (ea_d ev_int (ea_d ev_int (ea_d ev_int ea_nil))))))))) hp1) (by simp)) (stp_lsP _ _) fun H2 s2 hp2 => ema_nil hp2) (fun v H1 _ h => .inl h) (by simp) (by simp) (by omega)).imp fun v H1 _ _ ⟨d, hd, rd⟩ => ?_
        simp only [List.map_cons, List.map_nil, List.mem_cons, List.not_mem_nil, or_false] at hd
        have : ∃ i : Int, d = .int i ∧ 0 ≤ i ∧ i < 8 := by rcases hd with rfl | rfl | rfl | rfl | rfl | rfl | rfl | rfl | rfl <;> exact ⟨_, rfl, by decide, by decide⟩
        obtain ⟨i, rfl, h0, h1⟩ := this
        exact ⟨i, rp_int rd, h0, h1⟩
      · refine em_call (Ps := [Ex (.ref p), Ex (.str letters)]) (ema_ev (ea_x (ev_varX rfl) (ea_x (ev_varX rfl) ea_nil)) hp1) fun vs H2 s2 hp2 ⟨v, r, e1, p1, u, r2, e2, p2, e3⟩ Q' q' => ?_
        subst e1 e2 e3
        obtain rfl : v = .ref p := p1
        obtain rfl : u = .str letters := p2
        exact ⟨p, _, c, rfl, hp2, by omega, .inr ⟨letters, rfl, by decide +kernel, by decide +kernel, fun c' H3 hc' s3 hp3 => q' _ H3 s3 hp3 ⟨_, ⟨c', hc', rfl⟩, .str _⟩⟩⟩
      · obtain ⟨⟨a, xs, rfl, ha, hx⟩, hne⟩ := hl
        obtain ⟨ys, rfl, hys⟩ : ∃ ys : List Str, ds = ys.map PyData.str ∧ ∀ y ∈ ys, ∃ c, c ∈ letters.cps.toList ∧ y = (⟨#[c]⟩ : Str) := by
          clear hx h8
          induction ds with
          | nil => exact ⟨[], rfl, fun _ h => by cases h⟩
          | cons d ds ih =>
            obtain ⟨ys, e, h⟩ := ih fun d hd' => hd d (List.mem_cons_of_mem _ hd')
            obtain ⟨c, hc, rfl⟩ := hd d List.mem_cons_self
            refine ⟨⟨#[c]⟩ :: ys, by rw [e] <;> rfl, fun y hy => ?_⟩
            rcases List.mem_cons.mp hy with rfl | hy
            · exact ⟨c, hc, rfl⟩
            · exact h y hy
        have hj := join_len1 ys hys
        rw [List.length_map] at h8
        rw [rp_tupS_all.mp hx] at ha
        refine ⟨Str.ofString "", a, ys, rfl, rfl, .inl (SqL.of ha), ?_, q' _ H1 s1 hp1 ⟨_, rfl, by omega, hj.2⟩⟩
        have hz : (Str.ofString "").length = 0 := by decide +kernel
        rw [hz, Nat.mul_zero, Nat.add_zero]
        have hs : ∀ zs : List Str, (∀ y ∈ zs, ∃ c, c ∈ letters.cps.toList ∧ y = (⟨#[c]⟩ : Str)) → (zs.map (·.length)).sum = zs.length := fun zs => by
          induction zs with
          | nil => exact fun _ => rfl
          | cons y zs ih =>
            intro h
            obtain ⟨c, _, rfl⟩ := h y List.mem_cons_self
            rw [List.map_cons, List.sum_cons, ih fun y hy => h y (List.mem_cons_of_mem _ hy), List.length_cons]
            show 1 + _ = _
            omega
        rw [hs ys hys]
        omega
    subst e1
    refine nx_of ?_
    have hlen : (stem.length : Int) = stem.cps.toList.length := by rw [len_toList]
    refine s_unpM2 (A := Nl (stem.length + 1)) (B := Nl 26) (ema_cons (em_take rfl (ev_add (ev_lenS (K := K) (ev_varS (i := 3) rfl) (by rw [len_toList]; omega)) (ev_int (i := 1))) (by omega) (by omega) hp1 (by omega)) (stp_nl _ _) fun H2 s2 hp2 => ema_cons (em_take rfl (ev_int (i := 26)) (by decide) (by decide) hp2 (by omega)) (stp_nl _ _) fun H3 s3 hp3 => ema_nil hp3) (stb_nl _) (stb_nl _) fun v w H2 s2 hp2 ⟨spot, e5, a0, a1⟩ ⟨at0, e6, b0, b1⟩ => ?_
    subst e5 e6
    obtain ⟨at_, rfl⟩ : ∃ a : Nat, at0 = a := ⟨at0.toNat, by omega⟩
    refine nx_of ?_
    have hl26 : letters.cps.toList.length = 26 := by decide +kernel
    have a1' : spot ≤ stem.cps.toList.length := by omega
    refine s_set (P := Ls (((List.range many).map (nmk stem spot at_)).map PyData.str)) ?_ fun v4 H3 s3 p3 => ?_
    · rw [List.map_map]
      refine ev_lcR (fun i => .str (nmk stem spot at_ i)) (ea_d (ev_varI rfl) ea_nil) (by omega) (fun _ => rfl) fun i H4 hi s4 => ?_
      have hc : ∀ z : Str, z.length ≤ 100 → ∀ y : Str, y.length ≤ 100 → z.length + y.length ≤ 100000 := fun z h y h' => by omega
      have l1 : (cutS stem none (some spot)).length ≤ 7 := by rw [len_toList, cutS_hi _ a0 a1', List.length_take]; omega
      have l2 : (cutS stem (some spot) none).length ≤ 7 := by rw [len_toList, cutS_lo _ a0 a1', List.length_drop]; omega
      have l3 : (cutS stem none (some spot) ++ (⟨#[lcp (at_ + 5 * i)]⟩ : Str)).length ≤ 100 := by
        rw [len_toList, app_toList, List.length_append, ← len_toList]
        show _ + 1 ≤ 100
        omega
      refine ev_addS (ev_addS (ev_slS (ev_varS rfl) (by omega) eo_none (eo_some (ev_varI rfl))) ?_ (hc _ (by omega) _ (by show 1 ≤ 100; decide))) (ev_slS (ev_varS rfl) (by omega) (eo_some (ev_varI rfl)) eo_none) (hc _ l3 _ (by omega))
      have hi2 : (0 : Int) ≤ ((at_ : Int) + 5 * (i : Int)) % 26 := Int.emod_nonneg _ (by decide)
      have hi3 : ((at_ : Int) + 5 * (i : Int)) % 26 < 26 := Int.emod_lt_of_pos _ (by decide)
      have e7 : letters.cps.toList.getD (((at_ : Int) + 5 * (i : Int)) % 26).toNat 0 = lcp (at_ + 5 * i) := by
        unfold lcp
        congr 1
      refine ev_is (d := .str ⟨#[letters.cps.toList.getD (((at_ : Int) + 5 * (i : Int)) % 26).toNat 0]⟩) (ev_ixS (z := letters) (ev_varS rfl) (ev_modD (ev_int1 (ev_add (ev_varI (x := (at_ : Int)) rfl) (ev_mulD (ev_int (i := 5)) (ev_varI (x := (i : Int)) rfl) (wide_mul (a := 3) (b := 6) (by decide) (by omega) (by decide) (by decide) (by decide))))) (ev_int (i := 26)) (by decide)) (by omega) hi2 (by rw [hl26]; exact hi3)) (by rw [e7])
    refine nx_of ?_
    refine s_ret (ev_ssS (ev_var rfl p3 (stb_l _)) (by rw [List.length_map, List.length_range]; omega)) fun v H4 s4 ⟨ys, p4, hasc, hmem⟩ => ?_
    have hp4 := (hp2.sm s3).sm s4
    have hnm : ∀ y ∈ ys, Nm y := fun y hy => by
      obtain ⟨i, _, rfl⟩ := List.mem_map.mp ((hmem y).mp hy)
      exact nmk_nm a0 a1' st7 sl
    have hnd : ys.Nodup := List.Pairwise.imp (R := Lt) (S := fun a b => a ≠ b) (fun {a b} h (z : a = b) => lt_irrefl b (z ▸ h)) hasc
    have h5 : ys.length ≤ 5 := by
      have := nodup_le hnd fun x hx => (hmem x).mp hx
      rw [List.length_map, List.length_range] at this
      omega
    have h2 : 2 ≤ ys.length := by
      have i0 : nmk stem spot at_ 0 ∈ ys := (hmem _).mpr (List.mem_map.mpr ⟨0, List.mem_range.mpr (by omega), rfl⟩)
      have i1 : nmk stem spot at_ 1 ∈ ys := (hmem _).mpr (List.mem_map.mpr ⟨1, List.mem_range.mpr (by omega), rfl⟩)
      have ne := nmk_ne (at_ := at_) a0 a1' (by omega)
      have := nodup_le (xs := [nmk stem spot at_ 0, nmk stem spot at_ 1]) (ys := ys) (by simpa using ne) fun x hx => by
        rcases List.mem_cons.mp hx with rfl | hx
        · exact i0
        · rw [List.mem_singleton.mp hx]; exact i1
      simpa using this
    exact k v H4 ys ((((SmP.of s0).trans s1).trans s2).trans (.of (s3.trans s4))) (hp4.mono (by omega)) p4 ⟨h2, by omega, hnm, hasc⟩ h5
abbrev sFar : Stmt := top 60
theorem scFar : FnScope ["_law_pot_here"] ["_law_pot_here"] (defScope sFar) := ⟨rfl, rfl, rfl, by decide +kernel, rfl, by decide +kernel, by decide +kernel⟩
def spFar : Sp := fun vs H Q _ => ∃ (p : Addr) (n : Nat), vs = [.ref p] ∧ Pot p n H ∧ n + 3 ≤ 10 ^ 15 ∧ ∀ (i : Int) H', 1 ≤ i → SmP p H H' → Pot p (n + 3) H' → Q (.int i) H'
theorem cal_far (D : Std K mg "_law_far" sFar) (T : Gc mg) (C_law_take : Cal P w K mg base "_law_take" ["_law_pot_here", "_law_upto"] 1 spTake) (C_law_of : Cal P w K mg base "_law_of" ["_law_pot_here", "_law_some"] 2 spOf) : Cal P w K mg base "_law_far" ["_law_pot_here"] 3 spFar := by
  refine D.cal scFar (fun vs H Q E h => ?_) (fun _ _ _ _ _ _ us hl => match us, hl with | [_], _ => rfl) (fun f cdv A outer s H vs Q E hr h => ?_)
  · obtain ⟨p, n, rfl, _⟩ := h
    rfl
  · obtain ⟨p, n, rfl, hp, hn, k⟩ := h
    have nd := scFar.nd
    refine ⟨_, (pss_one (ps_ret (pe_cal C_law_of (hr.mono (by decide)) (pa_cons (pv 0) (pa_cons (pe_lst (pa_cons pe_int (pa_cons pe_int (pa_cons pe_int (pa_cons pe_int (pa_cons pe_int (pa_cons pe_int (pa_cons pe_int (pa_cons pe_int (pa_cons pe_int (pa_cons pe_int (pa_cons (pe_op op_add pe_int (pe_cal C_law_take (hr.mono (by decide)) (pa_cons (pv 0) (pa_cons pe_int pa_nil)))) (pa_cons (pe_op op_add pe_int (pe_cal C_law_take (hr.mono (by decide)) (pa_cons (pv 0) (pa_cons pe_int pa_nil)))) pa_nil))))))))))))) pa_nil))))), ?_⟩
    refine s_retM (p := p) (m := n + 3) (P := fun v _ => ∃ i : Int, v = .int i ∧ 1 ≤ i) ?_ fun v H1 s1 hp1 ⟨i, e, hi⟩ => by rw [e]; exact k i H1 hi s1 hp1
    have dt : ∀ (j : Int) H1 n1, Pot p n1 H1 → n1 ≤ 10 ^ 15 → 0 < j → j ≤ 1000 → Em p (tOp (rI0 fun i j => .int (i + j)) (tC (.int 1)) (tCall spTake [] E0 (tCons (tVar 0) (tCons (tC (.int j)) tNil)))) (L2.start ["_law_pot_here"] [.ref p]) H1 (n1 + 1) G1 := fun j H1 n1 hp1 h15 j0 j1 => em_op (em_ev (ev_int (i := 1)) hp1) (stp_d _ _) (fun H2 s2 hp2 => em_take rfl ev_int j0 j1 hp2 h15) fun x y H3 _ p1 ⟨i, e, i0, i1⟩ Q q => ⟨1, i, rp_int p1, e, q _ H3 (Same.refl _) ⟨_, rfl, by omega⟩⟩
    have cst : ∀ (i : Int) {σ : L2.St} {H1 : Hp} {n1 : Nat} {tr : TA} {m : Nat} {Ps : List VP}, 1 ≤ i → Pot p n1 H1 → (∀ H2, SmP p H1 H2 → Pot p n1 H2 → EmA p tr σ H2 m Ps) → EmA p (tCons (tC (.int i)) tr) σ H1 m (G1 :: Ps) := fun i {σ H1 n1 tr m Ps} h hp1 k => ema_cons (em_ev (ev_c fun _ => ⟨i, rfl, h⟩) hp1) (fun _ _ _ _ h => h) k
    have ea : ∀ H, Pot p n H → EmA p _ (L2.start ["_law_pot_here"] [.ref p]) H (n + 2) (List.replicate 12 G1) := fun H hp =>
      cst 1 (by decide) hp fun _ _ hp => cst 1 (by decide) hp fun _ _ hp => cst 2 (by decide) hp fun _ _ hp => cst 2 (by decide) hp fun _ _ hp => cst 3 (by decide) hp fun _ _ hp => cst 1 (by decide) hp fun _ _ hp => cst 4 (by decide) hp fun _ _ hp => cst 2 (by decide) hp fun _ _ hp => cst 5 (by decide) hp fun _ _ hp => cst 3 (by decide) hp fun _ _ hp => ema_cons (dt 12 _ _ hp (by omega) (by decide) (by decide)) (fun _ _ _ _ h => h) fun _ _ hp => ema_cons (dt 90 _ _ hp (by omega) (by decide) (by decide)) (fun _ _ _ _ h => h) fun _ _ hp => ema_nil hp
    refine em_call (n := n + 2) (Ps := [Ex (.ref p), fun v H' => ∃ a xs, v = .ref a ∧ a ≠ p ∧ H' a = some (.lst xs) ∧ xs.length = 12 ∧ ∀ x ∈ xs, G1 x H']) (ema_cons (em_ev (ev_varX rfl) hp) (stp_x _ _) fun H1 s1 hp1 => ema_cons (fun Q1 q1 => ?_) (fun v Ha Hb s ⟨a, xs, e, na, h1, h2, h3⟩ => ⟨a, xs, e, na, s.x _ _ na h1, h2, h3⟩) fun H2 s2 hp2 => ema_nil hp2) fun vs H1 s1 hp1 ⟨v, r, e1, p1, u, r2, e2, ⟨a, xs, e4, na, h1, h2, h3⟩, e3⟩ Q1 q1 => ?_
    · refine ea H1 hp1 _ fun xs H2 s2 hp2 hx => ?_
      have hl := allP_len hx
      rw [List.length_replicate] at hl
      refine ⟨by rw [hl]; decide, fun a ha => q1 _ _ (s2.trans (.of (same_new ha))) (hp2.sm (same_new ha)) ⟨a, xs, rfl, fun z => hp2.ne (z ▸ ha), upd_same, hl, ?_⟩⟩
      have : ∀ (k : Nat) (xs : List V), AllP (List.replicate k G1) xs H2 → ∀ x ∈ xs, G1 x H2 := fun k => by
        induction k with
        | zero =>
          intro xs h x hx
          obtain rfl : xs = [] := h
          cases hx
        | succ k ih =>
          rintro xs ⟨v, r, rfl, h1, h2⟩ x hx
          rcases List.mem_cons.mp hx with rfl | hx
          · exact h1
          · exact ih r h2 x hx
      exact this 12 xs hx
    · subst e1 e2 e3 e4
      obtain rfl : v = .ref p := p1
      exact ⟨p, _, n + 2, rfl, hp1, by omega, .inl ⟨a, xs, rfl, na, .inl h1, (fun z => by rw [z] at h2; cases h2), by omega, fun x H2 hx s2 hp2 => q1 x H2 s2 hp2 (h3 x hx)⟩⟩
end
end Qt
/-! Qen: enumerate over a tuple. -/
namespace Qt
open PySem PySem.Spec PyProof.Rows L2
open Sem (wp)
open AutoSeq1 (wpAny_loadPart')
theorem meets_enum_newT (l : Addr) (items : Array Value) (n : Nat) (dct : Option Addr) (sl : Array (Option Value)) :
    Meets (Builtin.«enumerate.__new__» ⟨[.type "enumerate", .ref l], []⟩) (fun _ R s => s.heap.get? l = some { cls := .type "tuple", dict := dct, data := .seq items n, slots := sl } ∧
      R (.ok (.ret (.ref (s.heap.push { cls := .type "tuple_iterator", data := .fields #[.ref l, .int 0 0] }).objs.size)))
        { s with heap := (s.heap.push { cls := .type "tuple_iterator", data := .fields #[.ref l, .int 0 0] }).push { cls := .type "enumerate", data := .fields #[.none, .bool false, .ref s.heap.objs.size, rawInt 0, .none, .none] } }) :=
  .of_wp fun prog w A R s h => by
    obtain ⟨hp, g, d, tk, os⟩ := s; obtain ⟨hl, h⟩ := h
    have hsub := sub_enumerate
    have hL : Heap.IsTuple (Shared.heap ⟨hp, g, d, tk, os⟩) l items := ⟨_, hl, rfl, n, rfl⟩
    wp_walk using wpAny_loadPart' hl
    refine wpAny_stack_any fun st => wpAny_pure ?_
    split
    · rename_i c _ _ _ _ _
      cases (c == Value.type "enumerate")
      · wp_walk using wpAny_loadPart' hl, wpAny_pyIter_tuple hL
        exact ⟨_, rfl, h⟩
      · wp_walk using wpAny_loadPart' hl, wpAny_pyIter_tuple hL
        exact ⟨_, rfl, h⟩
    · wp_walk using wpAny_loadPart' hl, wpAny_pyIter_tuple hL
      exact ⟨_, rfl, h⟩
section
variable {prog : Program} {w : World} {A : Around} {E : Value → Shared → Prop} {s : Shared}
theorem call_enumT {l : Addr} {items : Array Value} {Q : Value → Shared → Prop} (hL : s.heap.IsTuple l items)
    (h : ∀ h', IsEnum h' (s.heap.objs.size + 1) s.heap.objs.size 0 .none → h'.IsTupleIter s.heap.objs.size l 0 → h'.objs.size = s.heap.objs.size + 2 →
      (∀ b o, s.heap.get? b = some o → h'.get? b = some o) → Q (.ref (s.heap.objs.size + 1)) { s with heap := h' }) :
    wpAny (model prog w) A (call (.type "enumerate") [.ref l]) Q E s := by
  obtain ⟨⟨c, dct, dt, sl⟩, hl, hc, n, hd⟩ := hL
  replace hc : c = .type "tuple" := hc
  replace hd : dt = .seq items n := hd
  subst hc hd
  refine callType_new F.called_enumerate (by decide) (F.typeCall_enumerate_1 _) (F.newCall_enumerate_1 _) (fun obj => F.args_object_init_2 obj _) F.entry_enumerate_new
    (meets_enum_newT l items n dct sl) ⟨hl, ?_⟩
  have hz : (s.heap.push { cls := .type "tuple_iterator", data := .fields #[.ref l, .int 0 0] }).objs.size = s.heap.objs.size + 1 := Heap.size_push ..
  show _ ∧ _
  rw [hz]
  have he : IsEnum ((s.heap.push { cls := .type "tuple_iterator", data := .fields #[.ref l, .int 0 0] }).push
      { cls := .type "enumerate", data := .fields #[.none, .bool false, .ref s.heap.objs.size, rawInt 0, .none, .none] }) (s.heap.objs.size + 1) s.heap.objs.size 0 .none := by
    have := Heap.get?_push_size (s.heap.push { cls := .type "tuple_iterator", data := .fields #[.ref l, .int 0 0] })
      (o := { cls := .type "enumerate", data := .fields #[.none, .bool false, .ref s.heap.objs.size, rawInt 0, .none, .none] }) rfl
    rw [hz] at this; exact this
  refine ⟨⟨_, he, rfl⟩, h _ he ⟨_, Heap.get?_push_of_some _ (Heap.get?_push_size _ rfl), rfl, rfl⟩ (by rw [Heap.size_push, hz]) fun b o x => Heap.get?_push_of_some _ (Heap.get?_push_of_some _ x)⟩
end
def IteT (K : PySem.W.Frag) (a : Addr) : It :=
  ⟨fun i H => ∃ (xs : List V) (x : V), SqT K H a xs ∧ xs[i]? = some x, fun i H v H' => ∃ T x, v = .ref T ∧ H T = none ∧ H' = upd H T (.tup [.int (i : Nat), x]) ∧ ∀ xs, SqT K H a xs → xs[i]? = some x, fun i H => ∃ xs : List V, SqT K H a xs ∧ xs.length ≤ i⟩
theorem turn_enumT {P : Program} {w : World} {K : PySem.W.Frag} {elts : List Expr} {kk : Nat} {tpos : Pos} (a e it : Addr) :
    Turn P w K (.Tuple elts kk tpos) (IteT K a) [e, it] e (fun i h => (∃ old, IsEnum h e it ((i : Nat) : Int) old) ∧ h.IsTupleIter it a i ∧ e ≠ it ∧ e ≠ a ∧ a ≠ it) where
  mem := by simp
  obj := fun i h st b hb => by
    obtain ⟨⟨old, he⟩, ⟨o, ho, hc, hd⟩, _⟩ := st
    have e' : b = e ∨ b = it := by simpa using hb
    rcases e' with z | z
    · rw [z]; exact ⟨_, he, fun v q => nomatch q⟩
    · rw [z]; exact ⟨o, ho, fun v q => by rw [hd] at q; cases q⟩
  keep := fun i h h' st k => let ⟨⟨old, he⟩, hi, hne⟩ := st; ⟨⟨old, k e (by simp) _ he⟩, hi.at fun o q => k it (by simp) o q, hne⟩
  item := by
    intro X hP hw hK hc i pins s σ H E I hf st hg
    subst hP hw hK
    obtain ⟨⟨old, he⟩, hit, hne, hea, hai⟩ := st
    obtain ⟨xs, x, hq, hx⟩ := hg
    obtain ⟨its, rv, p, hz⟩ := I.tuple hq
    obtain ⟨u, hu, ru⟩ := rv.get hx
    have hil' : i < its.length := (List.getElem?_eq_some_iff.mp hu).1
    have hel : e < s.heap.objs.size := Heap.lt_size he
    have hil : it < s.heap.objs.size := by obtain ⟨_, q, _⟩ := hit; exact Heap.lt_size q
    refine wpAny_pyNext_enum_itemD (Draws.tuple (A := X.A.in1) (show X.A.in1.handled = none from I.ok.hd hc) it a hai its.toArray) he ⟨hit, show s.heap.IsTuple a its.toArray from p⟩ (by simpa using hil') hne (by simp [hne, hea]) fun x' h' tk hP' ho hst' hT hsz hk => ?_
    have ex : x' = u := by
      have h1 : its.toArray[i]? = some x' := hP'
      have h2 : its[i]? = some x' := by simpa using h1
      rw [hu] at h2
      exact (Option.some.inj h2).symm
    subst ex
    have hit' := hst'.1
    refine ⟨_, rfl, wpAny_letOwnedTupleGo_enum (s := { s with heap := h', toks := tk + 1 }) ho fun h'' he' sb => ?_⟩
    have hT2 : h''.get? s.heap.objs.size = some { cls := .type "tuple", data := .seq #[.int i tk, x'] } := (sb.2 _ (Nat.ne_of_gt hel)).trans hT
    have new : ObjOk X.prog X.w (upd H s.heap.objs.size (.tup [.int (i : Nat), x])) h'' s.heap.objs.size (.tup [.int (i : Nat), x]) :=
      ⟨by show 2 ≤ sizeLine; decide, [.int i tk, x'], .cons ⟨_, rfl⟩ (.cons ru .nil), ⟨_, hT2, rfl, _, rfl⟩⟩
    have I1 : Inv X pins σ (upd H s.heap.objs.size (.tup [.int (i : Nat), x])) { s with heap := h'', toks := tk + 1 } :=
      I.turnedNew (ch := [e, it]) (fun b ob hb q => (sb.2 b (fun z => hb (by simp [z]))).trans (hk b ob (fun z => hb (by simp [z])) (fun z => hb (by simp [z])) q)) hf (Nat.le_refl _) new
    refine ⟨.ref s.heap.objs.size, _, I1, rfl, ⟨_, x, rfl, I.hok.fresh (Nat.le_refl _), rfl, fun ys hy => by rw [I.tuple_inj hy hq]; exact hx⟩, ⟨⟨x', ?_⟩, hit'.at fun o q => (sb.2 it (Ne.symm hne)).trans q, hne, hea, hai⟩, fun b hb => ?_⟩
    · have e1 : ((i + 1 : Nat) : Int) = (i : Int) + 1 := by omega
      rw [e1]; exact he'
    · have hb' : b < s.heap.objs.size := by
        have e' : b = e ∨ b = it := by simpa using hb
        rcases e' with z | z
        · rw [z]; exact hel
        · rw [z]; exact hil
      rw [upd_ne (Nat.ne_of_lt hb')]
      exact (hf b hb).1
  done := by
    intro X hP hw hK hc i pins s σ H E I hf st hg
    subst hP hw hK
    obtain ⟨⟨old, he⟩, hit, hne, hea, hai⟩ := st
    obtain ⟨xs, hq, hx⟩ := hg
    obtain ⟨its, rv, p, hz⟩ := I.tuple hq
    obtain ⟨f0, f1, f2, f3, f4, f5⟩ := hf it (by simp)
    have hl := rv.length
    have hT : s.TypeIs (.ref e) "enumerate" := ⟨_, he, rfl⟩
    unfold pyNext
    refine wpAny_bind (wpAny_attempt (wpAny_callSpecial?_slot (name := Str.ofString "__next__") hT F.slot_enumerate_next
      (wpAny_call_entry F.slot_enumerate_next hT F.entry_enumerate_next ?_ (F.args_enumerate_next_1 _))))
    show wpAny _ _ (field (.ref e) 2 >>= _) _ _ _
    refine wpAny_bind (wpAny_field he rfl (x := .ref it) rfl ?_)
    refine wpAny_bind (wpAny_nextOf_tuple_end (show X.A.in1.handled = none from I.ok.hd hc) hit (show s.heap.IsTuple a its.toArray from p) (by simp; omega) fun h' x he' hx' => ?_)
    obtain ⟨o, ho, hc⟩ := hx'
    refine wpAny_bind (wpAny_isInstance (T := "StopIteration") (b := true) ⟨o, ho, hc⟩ isSubtype_stop ?_)
    exact wpAny_pure ⟨rfl, I.turned (t' := s.toks) (fun b o hb q => he' b o hb q) f0 f1 f3 f4 f5⟩
  self := fun A i s Q E st h => let ⟨⟨_, he⟩, _⟩ := st; wpAny_pyIter_enum he h
def iEnumT (K : PySem.W.Frag) (ta : TA) : TI := fun σ H R => ta σ H fun vs H1 => ∃ a xs, vs = [.ref a] ∧ SqT K H1 a xs ∧ R (IteT K a) H1
theorem pi_enumT {X : Cx} {K : PySem.W.Frag} {e : Expr} {ta : TA} {p pos tpos : Pos} {elts : List Expr} {kk : Nat} (hg : Gl X "enumerate") (hm : X.mg "enumerate" = none) (ha : PA X [e] ta) (hs : starEach [e] X.env = [(false, eval e X.env)] := by rfl) (hK : X.K = K := by rfl) :
    PI X (.Tuple elts kk tpos) (.Call (.Name "enumerate" p) [e] [] pos) (iEnumT K ta) := by
  subst hK
  refine ⟨fun pins s σ H R I h => ?_⟩
  refine Call_ (ld_blt I hg hm boot_enumerate (PyProof.Rows.callWith_type1 (thn (ha.run pos pins s σ H _ I h) fun us s1 ⟨vs, H1, I1, r1, q1⟩ => ?_) hs rfl))
  obtain ⟨a, xs, ex, hq, q⟩ := q1
  subst ex
  cases r1 with
  | cons r rr =>
    cases rr
    cases r
    obtain ⟨its, rv, p', hz⟩ := I1.tuple hq
    have hal : a < s1.heap.objs.size := by
      obtain ⟨o, ho, _⟩ := (show s1.heap.IsTuple a its.toArray from p')
      exact Heap.lt_size ho
    refine call_enumT (show s1.heap.IsTuple a its.toArray from p') fun h' he hit hsz hk => wpAny_pyIter_enum he ?_
    have I2 : Inv X pins σ H1 { s1 with heap := h' } := I1.kept (t' := s1.toks) hk
    refine ⟨s1.heap.objs.size + 1, [s1.heap.objs.size + 1, s1.heap.objs.size], _, _, H1, rfl, I2, turn_enumT a (s1.heap.objs.size + 1) s1.heap.objs.size, ⟨⟨.none, he⟩, hit, Nat.succ_ne_self _, Ne.symm (Nat.ne_of_lt (Nat.lt_succ_of_lt hal)), Nat.ne_of_lt hal⟩, fun b hb => ?_, q⟩
    have e' : b = s1.heap.objs.size + 1 ∨ b = s1.heap.objs.size := by simpa using hb
    have hle : s1.heap.objs.size ≤ b := by
      rcases e' with z | z
      · rw [z]; exact Nat.le_add_right _ _
      · rw [z]; exact Nat.le_refl _
    exact I1.fpOk hle (I1.hok.fresh hle)
end Qt
/-! QLe: _law_pairs. -/
namespace Qt
open PySem PySem.Spec PyProof.Rows L2
section
variable {K : PySem.W.Frag} {p : Addr} {σ : L2.St} {H H' : Hp} {te ta tb to : TE} {tr : TA} {tbd : TS} {m n : Nat} {ds es : List PyData} {D : Ends}
theorem walk_enumT {a : Addr} {xs : List V} : Walk (IteT K a) xs.length (fun H => SqT K H a xs) (YPair (fun i => some (.int (i : Nat))) (fun i => xs[i]?)) := by
  refine ⟨fun i _ hi q => ⟨xs, xs[i], q, by simp [hi]⟩, fun _ q => ⟨xs, q, Nat.le_refl _⟩, fun i H v H' _ q y => ?_⟩
  obtain ⟨T, x, h1, h2, h3, h4⟩ := y
  exact ⟨T, .int (i : Nat), x, h1, h2, h3, rfl, h4 xs q⟩
theorem s_forEt {i j : Nat} (h : EvA tr σ H [Dd (.tuple ds)]) (Pv : Hp → Nat → L2.St → Hp → Prop) (h0 : ∀ H1, Same H H1 → Pv H1 0 σ H1) (ht : ∀ H1 i σ' H', Same H H1 → Pv H1 i σ' H' → Tk H1 H')
    (hsm : ∀ H1 k σ' H' H'', Same H H1 → Pv H1 k σ' H' → Same H' H'' → Pv H1 k σ' H'')
    (turn : ∀ H1 k d v σ' H', Same H H1 → ds[k]? = some d → Pv H1 k σ' H' → Rp H' v d → tbd { D with nx := Pv H1 (k + 1), ct := Pv H1 (k + 1), bk := D.nx } ((σ'.set i (some (.int (k : Nat)))).set j (some v)) H')
    (done : ∀ H1 σ' H', Same H H1 → Pv H1 ds.length σ' H' → D.nx σ' H') : tFor (iEnumT K tr) (gTup K 2 (gCons (gName i) (gCons (gName j) gNil))) tbd D σ H := h H (Same.refl _) _ fun vs H1 s1 ⟨v, r, e1, p1, e2⟩ => by
  subst e1 e2
  obtain ⟨a, xs, rfl, h1, h2⟩ := rp_tup p1
  refine ⟨a, xs, rfl, SqT.of h1, for_it walk_enumT (fun i σ' H' => Pv H1 i σ' H') (h0 H1 s1) (fun i σ' H' _ q => SqT.of (ht H1 i σ' H' s1 q a _ h1)) (fun k x σ' H2 H3 hi q y => ?_) (fun σ' H' q => ?_)⟩
  · obtain ⟨T, u, y', rfl, hT, rfl, e3, e4⟩ := y
    cases e3
    obtain ⟨d, hd, rd⟩ := h2.at_ e4
    have s2 := same_new (o := .tup [.int (k : Nat), y']) hT
    exact ⟨T, _, rfl, SqT.of upd_same, rfl, _, [y'], rfl, y', [], rfl, rfl, turn H1 k d y' σ' _ s1 hd (hsm H1 k σ' _ _ s1 q s2) ((rd.up (ht H1 k σ' H2 s1 q)).sm s2)⟩
  · rw [h2.length] at q
    exact done H1 σ' H' s1 q
theorem s_forR2 {g : TG} {lo hi : Int} {N : Nat} (h : EvA tr σ H [Dd (.int lo), Dd (.int hi)]) (hN : (hi - lo).toNat = N) (b1 : -1000 ≤ lo) (b2 : lo ≤ 1000) (b3 : -1000 ≤ hi) (b4 : hi ≤ 1000) (Pv : Hp → Nat → L2.St → Hp → Prop) (h0 : ∀ H1, Same H H1 → Pv H1 0 σ H1)
    (turn : ∀ H1 (i : Nat) σ' H', Same H H1 → i < N → Pv H1 i σ' H' → g (.int (lo + i)) σ' H' fun σ2 H2 => tbd { D with nx := Pv H1 (i + 1), ct := Pv H1 (i + 1), bk := D.nx } σ2 H2)
    (done : ∀ H1 σ' H', Same H H1 → Pv H1 N σ' H' → D.nx σ' H') : tFor (iRng2 tr) g tbd D σ H := h H (Same.refl _) _ fun vs H1 s1 p => by
  obtain ⟨v, r, rfl, p1, u, r2, rfl, p2, rfl⟩ := p
  refine ⟨lo, hi, by rw [rp_int p1, rp_int p2], ⟨by omega, by omega, by omega, by omega⟩, ?_⟩
  rw [hN]
  refine for_it walk_range (fun i σ' H' => Pv H1 i σ' H') (h0 H1 s1) (fun _ _ _ _ _ => True.intro) (fun i x σ' H2 H3 hi q y => ?_) (fun σ' H' q => done H1 σ' H' s1 q)
  obtain ⟨rfl, rfl⟩ := y
  exact turn H1 i σ' H3 s1 hi q
theorem s_extend {L : Addr} (hl : Ls ds (.ref L) H) (hL : Ev to σ H (Ex (.ref L))) (h : Ev te σ H (Ls es)) (hz : ds.length + es.length ≤ 50000) (q : ∀ H1 o, Same H H1 → Tk H1 (upd H1 L o) → Ls (ds ++ es) (.ref L) (upd H1 L o) → D.nx σ (upd H1 L o)) : tDrop (tBM K "list" rExtend to (tCons te tNil)) D σ H := hL H (Same.refl _) _ fun v H1 s1 p1 => by
  obtain rfl : v = .ref L := p1
  obtain ⟨p, xs, e, h1, h2⟩ := hl
  cases e
  refine ⟨.inl ⟨rfl, _, SqL.of (s1 _ _ h1)⟩, h H1 s1 _ fun y H2 s2 p2 => ?_⟩
  obtain ⟨b, zs, rfl, b1, b2⟩ := p2
  have e2 := s2 _ _ (s1 _ _ h1)
  have tk : Tk H2 (upd H2 L (.lst (xs ++ zs))) := tk_upd fun xs z => by rw [e2] at z; cases z
  exact ⟨L, b, xs, zs, rfl, rfl, e2, b1, by rw [h2.length, b2.length]; exact Nat.le_trans hz (by decide), q H2 _ (s1.trans s2) tk ⟨L, _, rfl, upd_same, ((h2.sm (s1.trans s2)).up tk).append (b2.up tk)⟩⟩
theorem smp_none {L : Addr} (hp : Pot p n H') (s : SmP p H H') (h : H' L = none) : H L = none ∧ L ≠ p := by
  have n1 : L ≠ p := fun z => hp.ne (z ▸ h)
  refine ⟨?_, n1⟩
  cases e : H L with
  | none => rfl
  | some u => rw [s.x L u n1 e] at h; cases h
/-- a fresh list written -/
theorem SmP.updL {L : Addr} {H0 : Hp} {o : HO} (hL : H0 L = none) (s : SmP p H0 H) (t : Tk H (upd H L o)) : SmP p H0 (upd H L o) := ⟨fun a u na h => by
  rw [upd_ne (ne_of_none h hL)]
  exact s.x a u na h, s.t.trans t⟩
theorem Pot.updL {L : Addr} {o : HO} (n1 : L ≠ p) (h : Pot p n H) : Pot p n (upd H L o) := by
  obtain ⟨a, b, c, h1, h2⟩ := h
  exact ⟨a, b, c, by rw [upd_ne (Ne.symm n1)]; exact h1, h2⟩
theorem ls_updO {L : Addr} {v : V} {o : HO} (h : Ls ds v H) (n1 : v ≠ .ref L) (t : Tk H (upd H L o)) : Ls ds v (upd H L o) := by
  obtain ⟨a, xs, rfl, h1, h2⟩ := h
  exact ⟨a, xs, rfl, by rw [upd_ne (fun z => n1 (by rw [z]))]; exact h1, h2.up t⟩
theorem ls_smp {v : V} (h : Ls ds v H) (n1 : v ≠ .ref p) (s : SmP p H H') : Ls ds v H' := (stp_lsP p ds v H H' s ⟨h, n1⟩).1
theorem ev_min2 {i j : Int} (ha : Ev ta σ H (Dd (.int i))) (hb : Ev tb σ H (Dd (.int j))) : Ev (tCB (fun xs H Q => ∃ i j, xs = [.int i, .int j] ∧ Q (.int (if j < i then j else i)) H) (tCons ta (tCons tb tNil))) σ H (Dd (.int (if j < i then j else i))) := ev_cb (ea_d ha (ea_d hb ea_nil)) fun vs H1 s ⟨v, r, e1, p1, u, r2, e2, p2, e3⟩ Q q => by
  subst e1 e2 e3
  exact ⟨i, j, by rw [rp_int p1, rp_int p2], q _ H1 (Same.refl _) (.int _)⟩
theorem ev_max2 {i j : Int} (ha : Ev ta σ H (Dd (.int i))) (hb : Ev tb σ H (Dd (.int j))) : Ev (tCB (fun xs H Q => ∃ i j, xs = [.int i, .int j] ∧ Q (.int (if j > i then j else i)) H) (tCons ta (tCons tb tNil))) σ H (Dd (.int (if j > i then j else i))) := ev_cb (ea_d ha (ea_d hb ea_nil)) fun vs H1 s ⟨v, r, e1, p1, u, r2, e2, p2, e3⟩ Q q => by
  subst e1 e2 e3
  exact ⟨i, j, by rw [rp_int p1, rp_int p2], q _ H1 (Same.refl _) (.int _)⟩
end
/-! ### lists of pairs -/
theorem perm_inv {α β : Type} (f : α → β) (g : β → α) (hg : ∀ a, g (f a) = a) {l : List α} {l' : List β} (h : l'.Perm (l.map f)) : ∃ k : List α, l' = k.map f ∧ k.Perm l := by
  have hm : ∀ b ∈ l', f (g b) = b := fun b hb => by
    obtain ⟨a, _, rfl⟩ := List.mem_map.mp (h.mem_iff.mp hb)
    rw [hg]
  refine ⟨l'.map g, ?_, ?_⟩
  · rw [List.map_map]
    exact (List.map_congr_left (g := id) fun b hb => hm b hb).trans (List.map_id _) |>.symm
  · have := h.map g
    rw [List.map_map] at this
    have e : l.map (g ∘ f) = l := (List.map_congr_left (g := id) fun a _ => hg a).trans (List.map_id _)
    rw [e] at this
    exact this
def unS : PyData → Str
  | .str x => x
  | _ => ⟨#[]⟩
def unP : PyData → Str × Str
  | .tuple [.str a, .str b] => (a, b)
  | _ => (⟨#[]⟩, ⟨#[]⟩)
theorem shaped_prs {l : List (Str × Str)} (h : ∀ q ∈ l, PyData.strOk q.1 = true ∧ PyData.strOk q.2 = true) : SeqAt.shaped (.list (l.map prD)) = true := by
  have e : l.map prD = (l.map fun q => [q.1, q.2]).map tupS := by rw [List.map_map] <;> rfl
  rw [e]
  refine shaped_lstT fun m hm x hx => ?_
  obtain ⟨q, hq, rfl⟩ := List.mem_map.mp hm
  rcases List.mem_cons.mp hx with rfl | hx
  · exact (h q hq).1
  · rw [List.mem_singleton.mp hx]; exact (h q hq).2
theorem any_prs (q : Str × Str) : ∀ l : List (Str × Str), ((l.map prD).any fun z => PyData.eqv z (prD q)) = decide (q ∈ l)
  | [] => by simp
  | r :: l => by
    have e : PyData.eqv (prD r) (prD q) = decide (r = q) := by
      have := eqv_tupS [r.1, r.2] [q.1, q.2]
      have e2 : decide ([r.1, r.2] = [q.1, q.2]) = decide (r = q) := by
        obtain ⟨a, b⟩ := r
        obtain ⟨c, d⟩ := q
        simp
      rw [e2] at this
      exact this
    rw [List.map_cons, List.any_cons, any_prs q l, e]
    by_cases h : r = q
    · simp [h]
    · have h' : ¬ q = r := fun z => h z.symm
      simp [h, h']
structure PsOk (R : List Str) (ps : List (Str × Str)) : Prop where
  ok : ∀ q ∈ ps, q.1 ∈ R ∧ q.2 ∈ R ∧ Lt q.1 q.2
  nod : ps.Nodup
theorem ev_notInP {K : PySem.W.Frag} {σ : L2.St} {H : Hp} {ta tb : TE} {q : Str × Str} {l : List (Str × Str)} (ha : Ev ta σ H (Dd (prD q))) (hb : Ev tb σ H (Ls (l.map prD))) (hq : PyData.strOk q.1 = true ∧ PyData.strOk q.2 = true) (hl : ∀ q ∈ l, PyData.strOk q.1 = true ∧ PyData.strOk q.2 = true) : Ev (tOp (rNotInD K) ta tb) σ H (Dd (.bool (!decide (q ∈ l)))) := ev_op ha (stb_d _) hb fun x y H1 s p1 p2 Q k => by
  refine ⟨prD q, _, Rp.dp _ _ p1, dp_ls p2, ?_, shaped_prs hl, k _ H1 (Same.refl _) (by rw [any_prs]; exact .bl _)⟩
  have := shaped_tupS (R := [q.1, q.2]) fun x hx => by
    rcases List.mem_cons.mp hx with rfl | hx
    · exact hq.1
    · rw [List.mem_singleton.mp hx]; exact hq.2
  exact this
end Qt
/-! QLf: _law_pairs. -/
namespace Qt
open PySem PySem.Spec PyProof.Rows L2
theorem getElem_notin_take {R : List Str} (n : R.Nodup) {i : Nat} {x : Str} (h : R[i]? = some x) : x ∉ R.take i := fun hx => by
  obtain ⟨hi, rfl⟩ := List.getElem?_eq_some_iff.mp h
  have e := List.take_append_drop i R
  rw [← e] at n
  have n2 := (List.nodup_append.mp n).2.2
  have hd : R.drop i = R[i] :: R.drop (i + 1) := List.drop_eq_getElem_cons hi
  exact n2 _ hx _ (by rw [hd]; exact List.mem_cons_self) rfl
theorem asc_drop {R : List Str} (a : R.Pairwise Lt) {i : Nat} {x y : Str} (h : R[i]? = some x) (hy : y ∈ R.drop (i + 1)) : Lt x y := by
  obtain ⟨hi, rfl⟩ := List.getElem?_eq_some_iff.mp h
  have e := List.take_append_drop i R
  rw [← e] at a
  have a2 := (List.pairwise_append.mp a).2.1
  have hd : R.drop i = R[i] :: R.drop (i + 1) := List.drop_eq_getElem_cons hi
  rw [hd] at a2
  exact (List.pairwise_cons.mp a2).1 y hy
theorem pot_ls_str {p : Addr} {n : Nat} {H : Hp} {xs : List Str} {v : V} (hp : Pot p n H) (h : Ls (xs.map PyData.str) v H) (hx : xs ≠ []) : v ≠ .ref p := fun z => by
  obtain ⟨a, ys, e, h1, h2⟩ := h
  rw [z] at e
  cases e
  obtain ⟨o, s, c, h3, _⟩ := hp
  rw [h1] at h3
  cases h3
  have e := rp_tupS_all.mp h2
  cases xs with
  | nil => exact hx rfl
  | cons x xs => cases e
section
variable {P : Program} {w : World} {K : PySem.W.Frag} {mg : Str → Option Value} {base : Heap}
abbrev sPairs : Stmt := top 61
theorem scPairs : FnScope ["_law_pot_here", "_law_routers", "_law_many", "_law_is_joined", "_law_at", "_law_rest", "_law_order", "_law_found", "_law_a", "_law_other", "_law_b"] ["_law_pot_here", "_law_routers", "_law_many"] (defScope sPairs) := ⟨rfl, rfl, rfl, by decide +kernel, rfl, by decide +kernel, by decide +kernel⟩
def spPairs : Sp := fun vs H Q _ => ∃ (p : Addr) (v2 : V) (R : List Str) (many : Int) (n : Nat), vs = [.ref p, v2, .int many] ∧ Rp H v2 (tupS R) ∧ RsOk R ∧ R.length ≤ 5 ∧ many ≤ 16 ∧ Pot p n H ∧ n + 30 ≤ 10 ^ 15 ∧
  ∀ v H' ps, SmP p H H' → Pot p (n + 30) H' → LsP p (ps.map prD) v H' → PsOk R ps → ps.length ≤ 16 → Q v H'
/-- the word of the first loop -/
structure PaI (p L : Addr) (R od : List Str) (n0 : Nat) (H0 H1 : Hp) (v6 : V) (i : Nat) (H' : Hp) (fl : List (Str × Str)) : Prop where
  s0 : SmP p H0 H'
  t1 : Tk H1 H'
  pot : Pot p (n0 + 2 * i) H'
  ls : Ls (fl.map prD) (.ref L) H'
  ord : Ls (od.map PyData.str) v6 H'
  ok : PsOk R fl
  tk : ∀ q ∈ fl, q.1 ∈ od.take (i + 1) ∧ q.2 ∈ od.take (i + 1)
  len : fl.length ≤ i
theorem cal_pairs (D : Std K mg "_law_pairs" sPairs) (T : Gc mg) (C_law_take : Cal P w K mg base "_law_take" ["_law_pot_here", "_law_upto"] 1 spTake) (C_law_turned : Cal P w K mg base "_law_turned" ["_law_pot_here", "_law_some"] 2 spTurned) : Cal P w K mg base "_law_pairs" ["_law_pot_here", "_law_routers", "_law_many"] 3 spPairs := by
  refine D.cal scPairs (fun vs H Q E h => ?_) (fun _ _ _ _ _ _ us hl => match us, hl with | [_, _, _], _ => rfl) (fun f cdv A outer s H vs Q E hr h => ?_)
  · obtain ⟨p, v2, R, many, n, rfl, _⟩ := h
    rfl
  · obtain ⟨p, v2, R, many, n, rfl, h2, ro, h5, m16, hp, hn, k⟩ := h
    have nd := scPairs.nd
    have Rnd : R.Nodup := List.Pairwise.imp (R := Lt) (S := fun a b => a ≠ b) (fun {a b} h (z : a = b) => lt_irrefl b (z ▸ h)) ro.asc
    have two := ro.two
    have sok : ∀ x ∈ R, PyData.strOk x = true := fun x hx => (ro.nm x hx).ok
    refine ⟨_, (pss_cons (ps_asg (pe_tup (pa_cons (pe_cal C_law_turned (hr.mono (by decide)) (pa_cons (pv 0) (pa_cons (pe_callTy (k_lst (K := K)) (by rfl) T.b.list (by decide +kernel) (pa_cons (pv 1) pa_nil)) pa_nil))) (pa_cons (pe_lst pa_nil) pa_nil))) (k_tgT (K := K) (n := 2) rfl (pgs_cons (pg_name (i := 6) nd rfl (Or.inl rfl)) (pgs_cons (pg_name (i := 7) nd rfl (Or.inr rfl)) pgs_nil))))
 (pss_cons (ps_set (i := 3) nd rfl (Or.inl rfl) (pe_cmpR op_gt (pe_cal C_law_take (hr.mono (by decide)) (pa_cons (pv 0) (pa_cons pe_int pa_nil))) pe_int (nomark _)))
 (pss_cons (ps_for PassesOwn.never rfl (pi_range2 (by rfl) T.b.range (pa_cons pe_int (pa_cons (pe_callB (k_len (K := K)) (by rfl) T.b.len (by decide +kernel) (pa_cons (pv 6) pa_nil)) pa_nil))) (pg_name (i := 4) nd rfl (Or.inl rfl))
 (pss_one (ps_if (PW.pt (pw_or (pt_val (pv 3)) (pw_or1 (pt_cmpR op_eq (pe_cal C_law_take (hr.mono (by decide)) (pa_cons (pv 0) (pa_cons pe_int pa_nil))) pe_int (nomark _))))) (pss_cons (ps_set (i := 9) nd rfl (Or.inl rfl) (pe_ix (k_ixL (K := K)) (pv 6) (pe_op op_sub (pe_op op_sub (pv 4) pe_int) (pe_cal C_law_take (hr.mono (by decide)) (pa_cons (pv 0) (pa_cons (pe_callB (call_min2 rfl) (by rfl) T.b.min (by decide +kernel) (pa_cons (pv 4) (pa_cons pe_int pa_nil))) pa_nil)))) (fun _ _ => rfl)))
 (pss_one (ps_expr (k_append (K := K) (pv 7) (pe_ifExp (pt_cmpR op_lt_str (pe_ix (k_ixL (K := K)) (pv 6) (pv 4) (fun _ _ => rfl)) (pv 9) (nomark _)) (pe_tup (pa_cons (pe_ix (k_ixL (K := K)) (pv 6) (pv 4) (fun _ _ => rfl)) (pa_cons (pv 9) pa_nil))) (pe_tup (pa_cons (pv 9) (pa_cons (pe_ix (k_ixL (K := K)) (pv 6) (pv 4) (fun _ _ => rfl)) pa_nil)))))))) pss_nil)))
 (pss_cons (ps_set (i := 5) nd rfl (Or.inl rfl) (pe_lst pa_nil))
 (pss_cons (ps_for PassesOwn.never rfl (pi_enumT (K := K) (by rfl) T.b.enumerate (pa_cons (pv 1) pa_nil)) (k_tgT (K := K) (n := 2) rfl (pgs_cons (pg_name (i := 4) nd rfl (Or.inl rfl)) (pgs_cons (pg_name (i := 8) nd rfl (Or.inr rfl)) pgs_nil)))
 (pss_one (ps_expr (k_extend (K := K) (pv 5) (pe_lc (own := [("_law_b", 10)]) rfl nd (k_piT (K := K) (pe_slice (k_slT (K := K)) (pv 1) (po_some (pe_op op_add (pv 4) pe_int)) po_none)) (blkOk_by (by kernel_rfl)) (fun _ _ _ _ _ => (pg_name (i := 10) nd rfl (Or.inl rfl))) (fun _ _ _ _ _ => (pts_one (pt_cmpR (k_notInD (K := K) hr.units65) (pe_tup (pa_cons (pv 8) (pa_cons (pv 10) pa_nil))) (pv 7) rfl))) (fun _ _ _ _ _ => (pe_tup (pa_cons (pv 8) (pa_cons (pv 10) pa_nil)))))))))
 (pss_one (ps_ret (pe_ifExp (pt_cmpR (k_neD (K := K) hr.units) (pv 5) (pe_lst pa_nil) (nomark _)) (pe_op op_cat (pv 7) (pe_slice (k_slL (K := K)) (pe_cal C_law_turned (hr.mono (by decide)) (pa_cons (pv 0) (pa_cons (pv 5) pa_nil))) po_none (po_some (pe_callB (call_max2 rfl) (by rfl) T.b.max (by decide +kernel) (pa_cons pe_int (pa_cons (pe_op op_sub (pe_callTy call_int1 (by rfl) T.b.int (by decide +kernel) (pa_cons (pv 2) pa_nil)) (pe_callB (k_len (K := K)) (by rfl) T.b.len (by decide +kernel) (pa_cons (pv 7) pa_nil))) pa_nil)))))) (pv 7))))))))), ?_⟩
    -- order, found
    refine s_unpM2 (A := fun v H' => ∃ od : List Str, LsP p (od.map PyData.str) v H' ∧ od.Perm R) (B := fun v H' => ∃ L, v = .ref L ∧ H L = none ∧ L ≠ p ∧ Ls [] v H') (m := n + 2) (ema_cons (n := n + 2) (em_call (n := n) (Ps := [Ex (.ref p), LsP p (R.map PyData.str)]) (ema_ev (ea_x (ev_varX rfl) (ea_cons (P := LsP p (R.map PyData.str)) (fun Hx sx Q q => ?_) (stb_lsP _ _) ea_nil)) hp) ?_) (fun v Ha Hb s ⟨od, h, e⟩ => ⟨od, stp_lsP _ _ _ _ _ s h, e⟩) fun H1 s1 hp1 => ema_cons (fun Q q => ev_lst0 H1 (Same.refl _) Q fun v H2 s2 ⟨L, e, hL, h⟩ => ?_) (fun v Ha Hb s ⟨L, e, hL, nL, h⟩ => ⟨L, e, hL, nL, ls_smp h (fun z => nL (by rw [e] at z; cases z; rfl)) s⟩) fun H2 s2 hp2 => ema_nil hp2) (fun v Ha Hb s ⟨od, h, e⟩ => ⟨od, stb_lsP _ _ _ _ _ s h, e⟩) (fun v Ha Hb s ⟨L, e, hL, nL, h⟩ => ⟨L, e, hL, nL, stb_l _ _ _ _ s h⟩) fun v6 v7 H1 s1 hp1 ⟨od, ho, pm⟩ ⟨L, e7, hL, nL, hl⟩ => ?_
    · refine ev_listT (ev_varD (σ := L2.start ["_law_pot_here", "_law_routers", "_law_many", "_law_is_joined", "_law_at", "_law_rest", "_law_order", "_law_found", "_law_a", "_law_other", "_law_b"] [.ref p, v2, .int many]) (i := 1) rfl h2) Hx sx Q fun v H2 s2 h => q v H2 s2 ⟨h, fun z => ?_⟩
      exact pot_ls_str (hp.sm (sx.trans s2)) h (fun e => by rw [e] at two; exact absurd two (by decide)) z
    · rintro vs H1 s1 hp1 ⟨v, r, rfl, p1, u, r2, rfl, p2, rfl⟩ Q q
      obtain rfl : v = .ref p := p1
      refine ⟨p, u, n, _, rfl, hp1, by omega, p2, fun z => ?_, by rw [List.length_map]; omega, fun v H2 ds' s2 hp2 l2 pm => ?_⟩
      · rw [List.map_eq_nil_iff] at z
        rw [z] at two
        exact absurd two (by decide)
      · obtain ⟨od, rfl, po⟩ := perm_inv PyData.str unS (fun _ => rfl) pm
        exact q v H2 s2 hp2 ⟨od, l2, po⟩
    · obtain ⟨g1, g2⟩ := smp_none (hp1) s1 hL
      exact q v H2 (.of s2) (hp1.sm s2) ⟨L, e, g1, g2, h⟩
    subst e7
    have odn : od.Nodup := pm.nodup_iff.mpr Rnd
    have odl : od.length = R.length := pm.length_eq
    have v6L : v6 ≠ .ref L := fun z => by
      obtain ⟨a, ys, e, g1, g2⟩ := ho.1
      obtain ⟨a', ys', e', g1', g2'⟩ := hl
      cases e'
      rw [z] at e
      cases e
      rw [g1'] at g1
      cases g1
      cases g2'
      have e := rp_tupS_all.mp g2
      have : od = [] := by
        cases od with
        | nil => rfl
        | cons x xs => cases e
      rw [this] at odl
      rw [← odl] at two
      exact absurd two (by decide)
    have v6p : v6 ≠ .ref p := ho.2
    refine nx_of ?_
    refine s_setM (p := p) (m := n + 3) (P := fun v _ => ∃ b, v = .bl b) (em_op (em_take rfl (ev_int (i := 8)) (by decide) (by decide) hp1 (by omega)) (stp_nl _ _) (fun H2 _ hp2 => em_ev (ev_int (i := 0)) hp2) fun x y H2 _ ⟨i, e, i0, i1⟩ p2 Q q => ⟨i, 0, e, rp_int p2, q _ H2 (Same.refl _) ⟨_, rfl⟩⟩) fun v3 H2 s2 hp2 ⟨jn, e3⟩ => ?_
    subst e3
    refine nx_of ?_
    have ho2 := ls_smp ho.1 ho.2 s2
    have hl2 := ls_smp hl (fun z => nL (by cases z; rfl)) s2
    -- the first loop
    refine s_forR2 (N := od.length - 1) (ea_d (ev_int (i := 1)) (ea_d (ev_lenL (ev_var rfl ho2 (stb_l _))) ea_nil)) (by rw [List.length_map]; omega) (by decide) (by decide) (by rw [List.length_map]; omega) (by rw [List.length_map]; omega) (fun H3 i σ' H' => ∃ fl a4 a5 a8 a9 a10, σ' = [some (.ref p), some v2, some (.int many), some (.bl jn), a4, a5, some v6, some (.ref L), a8, a9, a10] ∧ PaI p L R od (n + 3) H H3 v6 i H' fl)
      (fun H3 s3 => ⟨[], _, _, _, _, _, rfl, (s1.trans s2).trans (.of s3), tk_same (Same.refl _), (hp2.sm s3), stb_l _ _ _ _ s3 hl2, stb_l _ _ _ _ s3 ho2, ⟨(fun _ h => by cases h), List.nodup_nil⟩, (fun _ h => by cases h), Nat.le_refl _⟩) ?_ ?_
    · rintro H3 i σ' H' s3 hi ⟨fl, a4, a5, a8, a9, a10, rfl, I⟩
      have hi' : i + 1 < od.length := by omega
      obtain ⟨y, hy⟩ : ∃ y, od[i + 1]? = some y := ⟨_, List.getElem?_eq_getElem hi'⟩
      have hyn := getElem_notin_take odn hy
      have hyR : y ∈ R := pm.mem_iff.mp (List.mem_of_getElem? hy)
      have e1i : (1 : Int) + (i : Nat) = ((i + 1 : Nat) : Int) := by omega
      rw [e1i]
      have tke : od.take (i + 1 + 1) = od.take (i + 1) ++ [y] := take_succ hy
      refine s_ifM (p := p) (n := n + 3 + 2 * i + 1) (q := fun _ => True) (emt_or (n := n + 3 + 2 * i) (q := fun _ => True) (q' := fun _ => True) (emt_test (em_ev ((ev_varX rfl : Ev (tVar 3) _ H' (Ex (.bl jn))).imp fun v _ _ e => ⟨jn, e, trivial⟩) I.pot)) (fun _ H4 s4 hp4 => em_eqT (em_take rfl (ev_int (i := 2)) (by decide) (by decide) hp4 (by omega))) (by omega) (fun _ _ _ => trivial) (fun _ => trivial)) (fun _ H4 s4 hp4 => ?_) (fun _ H4 s4 hp4 => ?_)
      · have ho4 := ls_smp I.ord v6p s4
        have hl4 := ls_smp I.ls (fun z => nL (by cases z; rfl)) s4
        -- other
        refine s_setM (p := p) (m := n + 3 + 2 * i + 1 + 1) (P := fun v _ => ∃ x, v = .str x ∧ x ∈ od.take (i + 1)) (em_op (A := LsP p (od.map PyData.str)) (B := Nl (i + 1)) (em_ev (ev_var rfl ⟨ho4, v6p⟩ (stb_lsP _ _)) hp4) (stp_lsP _ _) (fun H5 s5 hp5 => em_op (em_ev (ev_sub (ev_varI rfl) (ev_int (i := 1))) hp5) (stp_d _ _) (fun H6 s6 hp6 => em_take rfl (ev_min2 (ev_varI rfl) (ev_int (i := 2))) (by split <;> omega) (by split <;> omega) hp6 (by omega)) fun x y H6 _ p1 ⟨j, ej, j0, j1⟩ Q q => ⟨_, j, rp_int p1, ej, q _ H6 (Same.refl _) ⟨_, rfl, by split at j1 <;> omega, by omega⟩⟩) fun x z H6 _ p1 ⟨j, ej, j0, j1⟩ Q q => ?_) fun v9 H5 s5 hp5 ⟨x, e9, hx⟩ => ?_
        · obtain ⟨⟨a, ys, rfl, g1, g2⟩, _⟩ := p1
          rw [rp_tupS_all.mp g2] at g1
          have hj : j.toNat < od.length := by omega
          refine ⟨a, _, j, .str (od[j.toNat]), rfl, ej, SqL.of g1, ?_, q _ H6 (Same.refl _) ⟨_, rfl, ?_⟩⟩
          · unfold atI
            rw [ixN_nn j0 (by rw [List.length_map]; omega)]
            show (od.map V.str)[j.toNat]? = _
            rw [List.getElem?_map, List.getElem?_eq_getElem hj] <;> rfl
          · exact List.mem_iff_getElem?.mpr ⟨j.toNat, by rw [List.getElem?_take, if_pos (by omega), List.getElem?_eq_getElem hj]⟩
        subst e9
        refine nx_of ?_
        have ho5 := ls_smp ho4 v6p s5
        have hl5 := ls_smp hl4 (fun z => nL (by cases z; rfl)) s5
        have hxR : x ∈ R := pm.mem_iff.mp (List.mem_of_mem_take hx)
        have hne : y ≠ x := fun z => hyn (z ▸ hx)
        have evy : ∀ {Hx : Hp}, Same H5 Hx → Ev (tOp (rIxL K) (tVar 6) (tVar 4)) [some (.ref p), some v2, some (.int many), some (.bl jn), some (.int ((i + 1 : Nat) : Int)), a5, some v6, some (.ref L), a8, some (.str x), a10] Hx (Dd (.str y)) := fun {Hx} s => ev_ixL (j := i + 1) (ev_var rfl (stb_l _ _ _ _ s ho5) (stb_l _)) (ev_varI rfl) rfl (by rw [List.getElem?_map, hy] <;> rfl)
        -- found.append
        refine s_append (d := prD (if decide (y.cps.toList < x.cps.toList) = true then (y, x) else (x, y))) hl5 (ev_varX rfl) (ev_if (b := decide (y.cps.toList < x.cps.toList)) (et_test (ev_ltS (evy (Same.refl _)) (ev_varS rfl))) (fun e => ?_) (fun e => ?_)) (by rw [List.length_map]; have := I.len; omega) fun H6 o s6 t6 ls6 => ?_
        · rw [if_pos e]
          exact ev_tup (ds := [.str y, .str x]) (ea_d (evy (Same.refl _)) (ea_d (ev_varS rfl) ea_nil)) (by simp)
        · rw [if_neg (by rw [e]; decide)]
          exact ev_tup (ds := [.str x, .str y]) (ea_d (ev_varS rfl) (ea_d (evy (Same.refl _)) ea_nil)) (by simp)
        have hq : ∀ q : Str × Str, q = (if decide (y.cps.toList < x.cps.toList) = true then (y, x) else (x, y)) → (q.1 ∈ R ∧ q.2 ∈ R ∧ Lt q.1 q.2) ∧ (q.1 ∈ od.take (i + 1 + 1) ∧ q.2 ∈ od.take (i + 1 + 1)) ∧ (q.1 = y ∨ q.2 = y) := fun q e => by
          have my : y ∈ od.take (i + 1 + 1) := by rw [tke]; exact List.mem_append_right _ (List.mem_singleton.mpr rfl)
          have mx : x ∈ od.take (i + 1 + 1) := by rw [tke]; exact List.mem_append_left _ hx
          by_cases h : y.cps.toList < x.cps.toList
          · rw [if_pos (decide_eq_true h)] at e
            subst e
            exact ⟨⟨hyR, hxR, h⟩, ⟨my, mx⟩, .inl rfl⟩
          · rw [if_neg (by rw [decide_eq_false h]; decide)] at e
            subst e
            refine ⟨⟨hxR, hyR, ?_⟩, ⟨mx, my⟩, .inr rfl⟩
            rcases lt_or hne with h' | h'
            · exact absurd h' h
            · exact h'
        generalize (if decide (y.cps.toList < x.cps.toList) = true then (y, x) else (x, y)) = q at ls6 hq
        obtain ⟨q1, q2, q3⟩ := hq q rfl
        have SS : SmP p H (upd H6 L o) := SmP.updL hL ((I.s0.trans (s4.trans s5)).trans (.of s6)) t6
        refine (show ∃ fl a4 a5 a8 a9 a10, _ ∧ PaI p L R od (n + 3) H H3 v6 (i + 1) _ fl from ⟨fl ++ [q], _, _, _, _, _, rfl, SS, (I.t1.trans (s4.trans s5).t).trans ((tk_same s6).trans t6), ((hp5.sm s6).mono (by omega)).updL nL, by rw [List.map_append]; exact ls6, ls_updO (stb_l _ _ _ _ s6 ho5) v6L t6, ⟨fun r hr => ?_, ?_⟩, fun r hr => ?_, by rw [List.length_append, List.length_singleton]; have := I.len; omega⟩)
        · rcases List.mem_append.mp hr with hr | hr
          · exact I.ok.ok r hr
          · rw [List.mem_singleton.mp hr]; exact q1
        · refine List.nodup_append.mpr ⟨I.ok.nod, by simp, fun a ha b hb e => ?_⟩
          rw [List.mem_singleton.mp hb] at e
          obtain ⟨t1, t2⟩ := I.tk a ha
          rw [e] at t1 t2
          rcases q3 with z | z
          · rw [z] at t1; exact hyn t1
          · rw [z] at t2; exact hyn t2
        · rcases List.mem_append.mp hr with hr | hr
          · obtain ⟨t1, t2⟩ := I.tk r hr
            rw [tke]
            exact ⟨List.mem_append_left _ t1, List.mem_append_left _ t2⟩
          · rw [List.mem_singleton.mp hr]; exact q2
      · refine (show ∃ fl a4 a5 a8 a9 a10, _ ∧ PaI p L R od (n + 3) H H3 v6 (i + 1) _ fl from ⟨fl, _, _, _, _, _, rfl, I.s0.trans s4, I.t1.trans s4.t, hp4.mono (by omega), ls_smp I.ls (fun z => nL (by cases z; rfl)) s4, ls_smp I.ord v6p s4, I.ok, fun r hr => ?_, by have := I.len; omega⟩)
        obtain ⟨t1, t2⟩ := I.tk r hr
        rw [tke]
        exact ⟨List.mem_append_left _ t1, List.mem_append_left _ t2⟩
    · rintro H3 σ' H' s3 ⟨fl, a4, a5, a8, a9, a10, rfl, I⟩
      refine nx_of ?_
      -- rest = []
      refine s_set (P := fun v Hx => ∃ S, v = .ref S ∧ H' S = none ∧ Ls [] v Hx) ev_lst0 fun v5 H4 s4 ⟨S, e5, hS, lS⟩ => ?_
      subst e5
      refine nx_of ?_
      have fl5 : fl.length ≤ 4 := by have := I.len; omega
      have hp4 := I.pot.sm s4
      obtain ⟨hS0, nS⟩ := smp_none I.pot I.s0 hS
      have nLS : L ≠ S := fun z => by
        obtain ⟨a, ys, e, g1, _⟩ := I.ls
        cases e
        rw [z, hS] at g1
        cases g1
      have hr4 : Rp H4 v2 (tupS R) := (h2.up I.s0.t).sm s4
      have hL4 := stb_l _ _ _ _ s4 I.ls
      have flok : ∀ q ∈ fl, PyData.strOk q.1 = true ∧ PyData.strOk q.2 = true := fun q hq => ⟨sok _ (I.ok.ok q hq).1, sok _ (I.ok.ok q hq).2.1⟩
      -- the second loop
      refine s_forEt (ds := R.map PyData.str) (ea_d (ev_varD rfl hr4) ea_nil) (fun H5 i σ' H6 => ∃ rs a4 a8 a9 a10, σ' = [some (.ref p), some v2, some (.int many), some (.bl jn), a4, some (.ref S), some v6, some (.ref L), a8, a9, a10] ∧ SmP p H H6 ∧ Tk H4 H6 ∧ Tk H5 H6 ∧ Pot p (n + 3 + 2 * (od.length - 1)) H6 ∧ Ls (fl.map prD) (.ref L) H6 ∧ Ls (rs.map prD) (.ref S) H6 ∧ PsOk R rs ∧ (∀ q ∈ rs, q ∉ fl ∧ q.1 ∈ R.take i) ∧ rs.length ≤ i * 5)
        (fun H5 s5 => ⟨[], _, _, _, _, rfl, I.s0.trans (.of (s4.trans s5)), tk_same s5, tk_same (Same.refl _), hp4.sm s5, stb_l _ _ _ _ s5 hL4, stb_l _ _ _ _ s5 lS, ⟨(fun _ h => by cases h), List.nodup_nil⟩, (fun _ h => by cases h), Nat.zero_le _⟩) (fun H5 i σ' H6 s5 ⟨rs, a4, a8, a9, a10, e, g1, g2, g3, _⟩ => g3)
        (fun H5 i σ' H6 H7 s5 ⟨rs, a4, a8, a9, a10, e, g1, g2, g3, g4, g5, g6, g7⟩ s6 => ⟨rs, a4, a8, a9, a10, e, g1.trans (.of s6), g2.trans (tk_same s6), g3.trans (tk_same s6), g4.sm s6, stb_l _ _ _ _ s6 g5, stb_l _ _ _ _ s6 g6, g7⟩) ?_ ?_
      · rintro H5 i d v σ' H6 s5 hd ⟨rs, a4, a8, a9, a10, rfl, g1, g2, g3, g4, g5, g6, g7, g8, g9⟩ rv
        rw [List.getElem?_map] at hd
        cases hk : R[i]? with
        | none => rw [hk] at hd; cases hd
        | some a =>
          rw [hk] at hd
          cases hd
          rw [rp_str rv]
          have haR := List.mem_of_getElem? hk
          have hri : i < R.length := (List.getElem?_eq_some_iff.mp hk).1
          have ecut : cutD (R.map PyData.str) (some ((i : Int) + 1)) none = (R.drop (i + 1)).map PyData.str := by
            rw [cutD_lo _ (by omega), List.map_drop]
            congr 1
          have evd : Ev (tSl (rSlA K) (tVar 1) (tPart (tOp (rI0 fun i j => .int (i + j)) (tVar 4) (tC (.int 1)))) tNoPart) [some (.ref p), some v2, some (.int many), some (.bl jn), some (.int (i : Nat)), some (.ref S), some v6, some (.ref L), some (.str a), a9, a10] H6 (Dd (tupS (R.drop (i + 1)))) := by
            have := ev_slT (K := K) (t1 := tPart (tOp (rI0 fun i j => .int (i + j)) (tVar 4) (tC (.int 1)))) (t2 := tNoPart) (ev_varD (σ := [some (.ref p), some v2, some (.int many), some (.bl jn), some (.int (i : Nat)), some (.ref S), some v6, some (.ref L), some (.str a), a9, a10]) (i := 1) rfl (hr4.up g2)) (eo_some (ev_add (ev_varI rfl) (ev_int (i := 1)))) eo_none
            rw [ecut] at this
            exact this
          have dl : (R.drop (i + 1)).length ≤ 5 := by rw [List.length_drop]; omega
          refine s_extend (es := (((R.drop (i + 1)).filter fun b => !decide ((a, b) ∈ fl)).map fun b => (a, b)).map prD) g6 (ev_varX rfl) (by
            rw [List.map_map]
            refine ev_lcTS (fun b => !decide ((a, b) ∈ fl)) (fun b => prD (a, b)) evd (by omega) (fun _ => rfl) fun b hb H7 s7 => ⟨et_test (ev_notInP (q := (a, b)) (ev_tup (ds := [.str a, .str b]) (ea_d (ev_varS rfl) (ea_d (ev_varS rfl) ea_nil)) (by simp)) (ev_var rfl (stb_l _ _ _ _ s7 g5) (stb_l _)) ⟨sok a haR, sok b (List.mem_of_mem_drop hb)⟩ flok), fun _ => ev_tup (ds := [.str a, .str b]) (ea_d (ev_varS rfl) (ea_d (ev_varS rfl) ea_nil)) (by simp)⟩) ?_ fun H7 o s7 t7 ls7 => ?_
          · rw [List.length_map, List.length_map, List.length_map]
            have := List.length_filter_le (fun b => !decide ((a, b) ∈ fl)) (R.drop (i + 1))
            omega
          · rw [← List.map_append] at ls7
            refine (show ∃ rs a4 a8 a9 a10, _ ∧ SmP p H _ ∧ Tk H4 _ ∧ Tk H5 _ ∧ Pot p _ _ ∧ Ls (fl.map prD) (.ref L) _ ∧ Ls (rs.map prD) (.ref S) _ ∧ PsOk R rs ∧ (∀ q ∈ rs, q ∉ fl ∧ q.1 ∈ R.take (i + 1)) ∧ rs.length ≤ (i + 1) * 5 from ⟨_, _, _, _, _, rfl, SmP.updL hS0 (g1.trans (.of s7)) t7, (g2.trans (tk_same s7)).trans t7, (g3.trans (tk_same s7)).trans t7, (g4.sm s7).updL nS, ls_updO (stb_l _ _ _ _ s7 g5) (fun z => nLS (by cases z; rfl)) t7, ls7, ⟨fun q hq => ?_, ?_⟩, fun q hq => ?_, ?_⟩)
            · rcases List.mem_append.mp hq with hq | hq
              · exact g7.ok q hq
              · obtain ⟨b, hb, rfl⟩ := List.mem_map.mp hq
                have hb' := (List.mem_filter.mp hb).1
                exact ⟨haR, List.mem_of_mem_drop hb', asc_drop ro.asc hk hb'⟩
            · refine List.nodup_append.mpr ⟨g7.nod, ?_, fun q hq r hr e => ?_⟩
              · refine List.Pairwise.map _ ?_ ((Rnd.sublist (List.drop_sublist (i + 1) R)).sublist List.filter_sublist)
                exact fun b c h z => h (by injection z)
              · obtain ⟨b, hb, rfl⟩ := List.mem_map.mp hr
                have := (g8 q hq).2
                rw [e] at this
                exact getElem_notin_take Rnd hk this
            · have et : R.take (i + 1) = R.take i ++ [a] := take_succ hk
              rcases List.mem_append.mp hq with hq | hq
              · rw [et]
                exact ⟨(g8 q hq).1, List.mem_append_left _ (g8 q hq).2⟩
              · obtain ⟨b, hb, rfl⟩ := List.mem_map.mp hq
                have hb' := (List.mem_filter.mp hb).2
                rw [et]
                exact ⟨by simpa using hb', List.mem_append_right _ (List.mem_singleton.mpr rfl)⟩
            · rw [List.length_append, List.length_map]
              have := List.length_filter_le (fun b => !decide ((a, b) ∈ fl)) (R.drop (i + 1))
              omega
      · rintro H5 σ' H6 s5 ⟨rs, a4, a8, a9, a10, rfl, g1, g2, g3, g4, g5, g6, g7, g8, g9⟩
        refine nx_of ?_
        rw [List.length_map] at g9
        have rl : rs.length ≤ 25 := by omega
        have rsok : ∀ q ∈ rs, PyData.strOk q.1 = true ∧ PyData.strOk q.2 = true := fun q hq => ⟨sok _ (g7.ok q hq).1, sok _ (g7.ok q hq).2.1⟩
        have hm2 : n + 3 + 2 * (od.length - 1) ≤ n + 11 := by omega
        refine s_retM (p := p) (m := n + 30) (P := fun v H' => ∃ ps : List (Str × Str), LsP p (ps.map prD) v H' ∧ PsOk R ps ∧ ps.length ≤ 16) (em_if (n := n + 11) (q := fun b => b = !decide (rs = [])) (emt_ev (et_test (ev_is (ev_neD (A := Ls (rs.map prD)) (B := Ls []) (ev_var rfl g6 (stb_l _)) (stb_l _) (ev_lst (ds := []) ea_nil (by simp)) (fun _ _ p => dp_ls p) (fun _ _ p => dp_ls p) (shaped_prs rsok) (by rfl)) (by cases rs <;> rfl))) (g4.mono hm2)) (fun e H7 s7 hp7 => ?_) (fun e H7 s7 hp7 => ?_)) fun v H7 s7 hp7 ⟨ps, q1, q2, q3⟩ => k v H7 ps (g1.trans s7) hp7 q1 q2 q3
        · have rne : rs ≠ [] := by simpa using e.symm
          have h7 := ls_smp g5 (fun z => nL (by cases z; rfl)) s7
          have r7 := ls_smp g6 (fun z => nS (by cases z; rfl)) s7
          refine em_op (n := n + 11) (A := LsP p (fl.map prD)) (B := fun v H' => ∃ rs' : List (Str × Str), LsP p (rs'.map prD) v H' ∧ rs'.Nodup ∧ (∀ q ∈ rs', q ∈ rs) ∧ rs'.length ≤ 16 - fl.length) (em_ev (ev_var rfl ⟨h7, fun z => nL (by cases z; rfl)⟩ (stb_lsP _ _)) hp7) (stp_lsP _ _) (fun H8 s8 hp8 => ?_) fun x y H9 hp9 p1 ⟨rs', p2, nd', sub', len'⟩ Q q => ?_
          · -- turned(rest)[:k]
            intro Q q
            refine em_call (n := n + 11) (m := n + 30) (Ps := [Ex (.ref p), LsP p (rs.map prD)]) (P := fun v H' => ∃ rs' : List (Str × Str), LsP p (rs'.map prD) v H' ∧ rs'.Perm rs) (ema_ev (ea_x (ev_varX rfl) (ea_cons (ev_var rfl ⟨ls_smp r7 (fun z => nS (by cases z; rfl)) s8, fun z => nS (by cases z; rfl)⟩ (stb_lsP _ _)) (stb_lsP _ _) ea_nil)) hp8) ?_ _ fun v H9 s9 hp9 ⟨rs', l9, pm9⟩ => ?_
            · rintro vs H9 s9 hp9 ⟨v, r, rfl, p1, u, r2, rfl, p2, rfl⟩ Q q
              obtain rfl : v = .ref p := p1
              refine ⟨p, u, n + 11, _, rfl, hp9, by omega, p2, fun z => rne (List.map_eq_nil_iff.mp z), by rw [List.length_map]; omega, fun v H2 ds' s2 hp2 l2 pm => ?_⟩
              obtain ⟨od', rfl, po⟩ := perm_inv prD unP (fun _ => rfl) pm
              exact q v H2 s2 (hp2.mono (by omega)) ⟨od', l2, po⟩
            · have hl9 := ls_smp (ls_smp h7 (fun z => nL (by cases z; rfl)) s8) (fun z => nL (by cases z; rfl)) s9
              refine eo_none (σ := [some (.ref p), some v2, some (.int many), some (.bl jn), a4, some (.ref S), some v6, some (.ref L), a8, a9, a10]) H9 (Same.refl _) _ fun H10 s10 => ?_
              have evk := ev_max2 (ev_int (i := 0)) (ev_sub (ev_int1 (ev_varI (σ := [some (.ref p), some v2, some (.int many), some (.bl jn), a4, some (.ref S), some v6, some (.ref L), a8, a9, a10]) (i := 2) (x := many) rfl)) (ev_lenL (K := K) (ev_var (σ := [some (.ref p), some v2, some (.int many), some (.bl jn), a4, some (.ref S), some v6, some (.ref L), a8, a9, a10]) (i := 7) rfl (stb_l _ _ _ _ s10 hl9) (stb_l _))))
              refine eo_some evk H10 (Same.refl _) _ fun H11 s11 => ?_
              obtain ⟨⟨a, ys, rfl, k1, k2⟩, k3⟩ := stb_lsP _ _ _ _ _ (s10.trans s11) l9
              refine ⟨a, ys, rfl, SqL.of k1, fun c hc => ?_⟩
              have sc : Same H11 (upd H11 c (.lst (cutV ys none (some (if many - ((fl.map prD).length : Int) > 0 then many - ((fl.map prD).length : Int) else 0))))) := same_new hc
              have kk := rp_cut (k2.sm sc) none (some (if many - ((fl.map prD).length : Int) > 0 then many - ((fl.map prD).length : Int) else 0))
              rw [cutD_hi _ (by split <;> omega), ← List.map_take] at kk
              refine q _ _ (s9.trans (.of ((s10.trans s11).trans sc))) (hp9.sm ((s10.trans s11).trans sc)) ⟨_, ⟨⟨c, _, rfl, upd_same, kk⟩, fun z => ?_⟩, ?_, fun q' hq' => pm9.mem_iff.mp (List.mem_of_mem_take hq'), ?_⟩
              · cases z
                exact (hp9.sm (s10.trans s11)).ne hc
              · exact (pm9.nodup_iff.mpr g7.nod).sublist (List.take_sublist _ _)
              · rw [List.length_take, List.length_map]
                split <;> omega
          · obtain ⟨⟨a, xs, rfl, a1, a2⟩, na⟩ := p1
            obtain ⟨⟨b, ys, rfl, b1, b2⟩, nb⟩ := p2
            refine ⟨a, b, xs, ys, rfl, rfl, a1, b1, ?_, fun c hc => ?_⟩
            · rw [a2.length, b2.length, List.length_map, List.length_map]
              exact Nat.le_trans (show _ ≤ 100000 by omega) (by decide)
            · have sc := same_new (o := .lst (xs ++ ys)) hc
              refine q _ _ sc ⟨fl ++ rs', ⟨⟨c, _, rfl, upd_same, by rw [List.map_append]; exact (a2.append b2).sm sc⟩, fun z => ?_⟩, ⟨fun q' hq' => ?_, List.nodup_append.mpr ⟨I.ok.nod, nd', fun q1 h1 q2 h2 e => ?_⟩⟩, ?_⟩
              · cases z
                exact hp9.ne hc
              · rcases List.mem_append.mp hq' with h | h
                · exact I.ok.ok q' h
                · exact g7.ok q' (sub' q' h)
              · rw [e] at h1
                exact (g8 q2 (sub' q2 h2)).1 h1
              · rw [List.length_append]
                omega
        · have rne : rs = [] := by simpa using e.symm
          exact (em_ev ((ev_var rfl ⟨ls_smp g5 (fun z => nL (by cases z; rfl)) s7, fun z => nL (by cases z; rfl)⟩ (stb_lsP _ _)).imp fun v _ _ h => ⟨fl, h, I.ok, by omega⟩) hp7).mono (by omega)
end
end Qt
/-! QLg: _law_world, _law_made, _law_lengths, .. -/
namespace Qt
open PySem PySem.Spec PyProof.Rows L2
def worldD (R : List Str) (ls : List Lk) : PyData := .tuple [tupS R, lksD ls]
structure WdOk (R : List Str) (ls : List Lk) : Prop where
  r : RsOk R
  five : R.length ≤ 5
  l : LsOk R ls
section
variable {K : PySem.W.Frag} {p : Addr} {σ : L2.St} {H H' : Hp} {te ta tb to : TE} {tr : TA} {tbd : TS} {m n : Nat} {ds es : List PyData} {D : Ends}
theorem s_appendM {L : Addr} {Pd : PyData → Prop} (hl : Ls ds (.ref L) H) (nL : L ≠ p) (hp : Pot p n H) (hL : Ev to σ H (Ex (.ref L))) (h : ∀ H1, Same H H1 → Em p te σ H1 m (fun v H' => ∃ d, Pd d ∧ Rp H' v d)) (hz : ds.length ≤ 50000) (q : ∀ d H1 o, Pd d → SmP p H H1 → Pot p m H1 → Tk H1 (upd H1 L o) → Ls (ds ++ [d]) (.ref L) (upd H1 L o) → D.nx σ (upd H1 L o)) : tDrop (tBM K "list" rAppend to (tCons te tNil)) D σ H := hL H (Same.refl _) _ fun v H1 s1 p1 => by
  obtain rfl : v = .ref L := p1
  obtain ⟨a, xs, e, h1, h2⟩ := hl
  cases e
  refine ⟨.inl ⟨rfl, _, SqL.of (s1 _ _ h1)⟩, h H1 s1 _ fun y H2 s2 hp2 ⟨d, hd, p2⟩ => ?_⟩
  have e2 := s2.x _ _ nL (s1 _ _ h1)
  have tk : Tk H2 (upd H2 L (.lst (xs ++ [y]))) := tk_upd fun xs z => by rw [e2] at z; cases z
  exact ⟨L, xs, y, rfl, rfl, e2, by rw [h2.length]; exact Nat.lt_of_le_of_lt hz (by decide), q d H2 _ hd ((SmP.of s1).trans s2) hp2 tk ⟨L, _, rfl, upd_same, ((((h2.sm s1).up s2.t).up tk)).append (.one (Rp.up p2 tk))⟩⟩
theorem emt_B {tt : TE} {q : Bool → Prop} (h : Em p tt σ H m (fun v _ => ∃ b, v = .bl b ∧ q b)) : EmT p (tB tt) σ H m q := fun Q k => h _ fun v H1 s hp ⟨b, e, hq⟩ => ⟨b, e, k b H1 s hp hq⟩
theorem s_parM {i j : Nat} {A B : VP} (h : EmA p tr σ H m [A, B]) (k : ∀ v w H1, SmP p H H1 → Pot p m H1 → A v H1 → B w H1 → D.nx ((σ.set i (some v)).set j (some w)) H1) : tPar i j tr D σ H := h _ fun vs H1 s1 hp1 p => by
  obtain ⟨v, r, rfl, p1, w, r2, rfl, p2, rfl⟩ := p
  exact ⟨v, w, rfl, k v w H1 s1 hp1 p1 p2⟩
theorem ev_tupXp {q : List PyData → Prop} (h : Ev te σ H (fun v H' => ∃ ds, Ls ds v H' ∧ q ds)) : Ev (tCB (rTupO K) (tCons te tNil)) σ H (fun v H' => ∃ ds, Rp H' v (.tuple ds) ∧ q ds) := fun H1 s Q k => h H1 s _ fun v H2 s2 ⟨ds, p, hq⟩ => by
  exact cv_tupL (ds := ds) [v] H2 (Same.refl _) ⟨v, [], rfl, p, rfl⟩ _ fun u H3 s3 p3 => k u H3 (s2.trans s3) ⟨ds, p3, hq⟩
theorem em_eqV {c i : Int} (h : Em p te σ H m (Nl i)) : Em p (tOp rEq te (tC (.int c))) σ H m (fun v _ => ∃ b, v = .bl b) := em_op h (stp_nl _ _) (fun H1 _ hp => em_ev (ev_int (i := c)) hp) fun x y H1 hp ⟨i, e1, _⟩ p2 Q q => by
  rw [e1, rp_int p2]
  exact ⟨rfl, q _ H1 (Same.refl _) ⟨_, rfl⟩⟩
theorem g_two {i j : Nat} {v : V} {q : Str × Str} {Q : L2.St → Hp → Prop} (h : Rp H v (prD q)) (k : Q ((σ.set i (some (.str q.1))).set j (some (.str q.2))) H) : gTup K 2 (gCons (gName i) (gCons (gName j) gNil)) v σ H Q := by
  obtain ⟨a, xs, rfl, h1, h2⟩ := rp_tup h
  cases h2 with
  | cons r1 r2 =>
    cases r2 with
    | cons r3 r4 =>
      cases r4
      rw [rp_str r1, rp_str r3] at h1
      exact ⟨a, _, rfl, SqT.of h1, rfl, _, _, rfl, _, [], rfl, rfl, k⟩
theorem SmP.sm2 {L : Addr} {H0 : Hp} (a : Sm2 p L H0 H) (s : SmP p H H') : Sm2 p L H0 H' := fun c u n1 n2 h => s.x c u n1 (a c u n1 n2 h)
end
section
variable {P : Program} {w : World} {K : PySem.W.Frag} {mg : Str → Option Value} {base : Heap}
abbrev sWorld : Stmt := top 62
theorem scWorld : FnScope ["_law_pot_here", "_law_least", "_law_most", "_law_more", "_law_many", "_law_routers", "_law_pairs_here", "_law_links", "_law_is_even", "_law_a", "_law_b", "_law_there"] ["_law_pot_here", "_law_least", "_law_most", "_law_more"] (defScope sWorld) := ⟨rfl, rfl, rfl, by decide +kernel, rfl, by decide +kernel, by decide +kernel⟩
def spWorld : Sp := fun vs H Q _ => ∃ (p : Addr) (n : Nat), vs = [.ref p, .int 2, .int 5, .int 4] ∧ Pot p n H ∧ n + 200 ≤ 10 ^ 15 ∧
  ∀ v H' R ls, SmP p H H' → Pot p (n + 200) H' → Rp H' v (worldD R ls) → WdOk R ls → Q v H'
theorem cal_world (D : Std K mg "_law_world" sWorld) (T : Gc mg) (C_law_take : Cal P w K mg base "_law_take" ["_law_pot_here", "_law_upto"] 1 spTake) (C_law_names : Cal P w K mg base "_law_names" ["_law_pot_here", "_law_many"] 3 spNames) (C_law_pairs : Cal P w K mg base "_law_pairs" ["_law_pot_here", "_law_routers", "_law_many"] 3 spPairs) (C_law_far : Cal P w K mg base "_law_far" ["_law_pot_here"] 3 spFar) : Cal P w K mg base "_law_world" ["_law_pot_here", "_law_least", "_law_most", "_law_more"] 4 spWorld := by
  refine D.cal scWorld (fun vs H Q E h => ?_) (fun _ _ _ _ _ _ us hl => match us, hl with | [_, _, _, _], _ => rfl) (fun f cdv A outer s H vs Q E hr h => ?_)
  · obtain ⟨p, n, rfl, _⟩ := h
    rfl
  · obtain ⟨p, n, rfl, hp, hn, k⟩ := h
    have nd := scWorld.nd
    refine ⟨_, (pss_cons (ps_set (i := 4) nd rfl (Or.inl rfl) (pe_op op_add (pv 1) (pe_cal C_law_take (hr.mono (by decide)) (pa_cons (pv 0) (pa_cons (pe_op op_add (pe_op op_sub (pv 2) (pv 1)) pe_int) pa_nil)))))
 (pss_cons (ps_set (i := 5) nd rfl (Or.inl rfl) (pe_callTy (k_tup (K := K)) (by rfl) T.b.tuple (by decide +kernel) (pa_cons (pe_cal C_law_names (hr.mono (by decide)) (pa_cons (pv 0) (pa_cons (pv 4) pa_nil))) pa_nil)))
 (pss_cons (ps_set (i := 6) nd rfl (Or.inl rfl) (pe_cal C_law_pairs (hr.mono (by decide)) (pa_cons (pv 0) (pa_cons (pv 5) (pa_cons (pe_callB (call_min2 rfl) (by rfl) T.b.min (by decide +kernel) (pa_cons pe_int (pa_cons (pe_op op_add (pe_op op_sub (pv 4) pe_int) (pe_cal C_law_take (hr.mono (by decide)) (pa_cons (pv 0) (pa_cons (pe_op op_add (pv 3) pe_int) pa_nil)))) pa_nil))) pa_nil)))))
 (pss_cons (ps_par (i := 7) (j := 8) rfl nd rfl rfl (by decide) rfl rfl (pa_cons (pe_lst pa_nil) (pa_cons (pe_cmpR op_eq (pe_cal C_law_take (hr.mono (by decide)) (pa_cons (pv 0) (pa_cons pe_int pa_nil))) pe_int (nomark _)) pa_nil)) (by rfl))
 (pss_cons (ps_for PassesOwn.never rfl (k_piL (K := K) (pv 6)) (k_tgT (K := K) (n := 2) rfl (pgs_cons (pg_name (i := 9) nd rfl (Or.inl rfl)) (pgs_cons (pg_name (i := 10) nd rfl (Or.inl rfl)) pgs_nil)))
 (pss_cons (ps_set (i := 11) nd rfl (Or.inl rfl) (pe_cal C_law_far (hr.mono (by decide)) (pa_cons (pv 0) pa_nil)))
 (pss_one (ps_expr (k_append (K := K) (pv 7) (pe_tup (pa_cons (pv 9) (pa_cons (pv 10) (pa_cons (pv 11) (pa_cons (pe_ifExp (pt_val (pv 8)) (pv 11) (pe_cal C_law_far (hr.mono (by decide)) (pa_cons (pv 0) pa_nil))) pa_nil))))))))))
 (pss_one (ps_ret (pe_tup (pa_cons (pv 5) (pa_cons (pe_callTy (k_tup (K := K)) (by rfl) T.b.tuple (by decide +kernel) (pa_cons (pe_ssT (K := K) rfl hr.units (by rfl) T.b.sorted (by rfl) T.b.set (pv 7)) pa_nil)) pa_nil)))))))))), ?_⟩
    -- many
    refine s_setM (p := p) (m := n + 1) (P := fun v _ => ∃ k : Nat, v = .int k ∧ 2 ≤ k ∧ k ≤ 5) (em_op (em_ev (ev_varI (i := 1) (x := 2) rfl) hp) (stp_d _ _) (fun H1 s1 hp1 => em_take rfl (ev_add (ev_sub (ev_varI (i := 2) (x := 5) rfl) (ev_varI (i := 1) (x := 2) rfl)) (ev_int (i := 1))) (by decide) (by decide) hp1 (by omega)) fun x y H1 _ p1 ⟨j, e, j0, j1⟩ Q q => ⟨2, j, rp_int p1, e, q _ H1 (Same.refl _) ⟨(2 + j).toNat, by rw [Int.toNat_of_nonneg (by omega)], by omega, by omega⟩⟩) fun v4 H1 s1 hp1 ⟨many, e4, m2, m5⟩ => ?_
    subst e4
    refine nx_of ?_
    -- routers
    refine s_setM (p := p) (m := n + 12) (P := fun v H' => ∃ R, Rp H' v (tupS R) ∧ RsOk R ∧ R.length ≤ 5) ?_ fun v5 H2 s2 hp2 ⟨R, hR, ro, r5⟩ => ?_
    · intro Q' q'
      refine em_call (n := n + 1) (m := n + 12) (Ps := [Ex (.ref p), Ex (.int many)]) (P := fun v H' => ∃ R : List Str, Ls (R.map PyData.str) v H' ∧ RsOk R ∧ R.length ≤ 5) (ema_ev (ea_x (ev_varX rfl) (ea_x (ev_varX rfl) ea_nil)) hp1) ?_ _ fun v H3 s3 hp3 ⟨R, h1, h2, h3⟩ => ?_
      · rintro vs H3 s3 hp3 ⟨v, r, rfl, p1, u, r2, rfl, p2, rfl⟩ Q q
        obtain rfl : v = .ref p := p1
        obtain rfl : u = .int many := p2
        exact ⟨p, many, n + 1, rfl, hp3, by omega, m2, m5, fun v H4 ys s4 hp4 l4 o4 f4 => q v H4 s4 (hp4.mono (by omega)) ⟨ys, l4, o4, f4⟩⟩
      · exact cv_tupL [v] H3 (Same.refl _) ⟨v, [], rfl, h1, rfl⟩ _ fun u H4 s4 p4 => q' u H4 (s3.trans (.of s4)) (hp3.sm s4) ⟨R, p4, h2, h3⟩
    refine nx_of ?_
    -- pairs
    refine s_setM (p := p) (m := n + 43) (P := fun v H' => ∃ ps, LsP p (ps.map prD) v H' ∧ PsOk R ps ∧ ps.length ≤ 16) ?_ fun v6 H3 s3 hp3 ⟨ps, lp, po, pz⟩ => ?_
    · refine em_call (n := n + 13) (m := n + 43) (Ps := [Ex (.ref p), Dd (tupS R), fun v _ => ∃ i : Int, v = .int i ∧ i ≤ 16]) (ema_cons (em_ev (ev_varX rfl) hp2) (stp_x _ _) fun H3 s3 hp3 => ema_cons (em_ev (ev_varD rfl (hR.up s3.t)) hp3) (stp_d _ _) fun H4 s4 hp4 => ema_cons (n := n + 13) (em_cb (Ps := [Dd (.int 16), fun v _ => ∃ i : Int, v = .int i]) (ema_cons (em_ev (ev_int (i := 16)) hp4) (stp_d _ _) fun H5 s5 hp5 => ema_cons (n := n + 13) (em_op (em_ev (ev_sub (ev_varI (i := 4) (x := (many : Int)) rfl) (ev_int (i := 1))) hp5) (stp_d _ _) (fun H6 s6 hp6 => em_take rfl (ev_add (ev_varI (i := 3) (x := 4) rfl) (ev_int (i := 1))) (by decide) (by decide) hp6 (by omega)) fun x y H7 _ p1 ⟨j, e, j0, j1⟩ Q q => ⟨_, j, rp_int p1, e, q _ H7 (Same.refl _) ⟨_, rfl⟩⟩) (fun _ _ _ _ h => h) fun H6 s6 hp6 => ema_nil hp6) ?_) (fun _ _ _ _ h => h) fun H5 s5 hp5 => ema_nil hp5) ?_
      · rintro vs H5 hp5 ⟨v, r, rfl, p1, u, r2, rfl, ⟨i, rfl⟩, rfl⟩ Q q
        exact ⟨16, i, by rw [rp_int p1], q _ H5 (Same.refl _) ⟨_, rfl, by split <;> omega⟩⟩
      · rintro vs H5 s5 hp5 ⟨v, r, rfl, p1, u, r2, rfl, p2, w', r3, rfl, ⟨i, rfl, hi⟩, rfl⟩ Q q
        obtain rfl : v = .ref p := p1
        exact ⟨p, u, R, i, n + 13, rfl, p2, ro, r5, hi, hp5, by omega, fun v H6 ps s6 hp6 l6 o6 z6 => q v H6 s6 (hp6.mono (by omega)) ⟨ps, l6, o6, z6⟩⟩
    refine nx_of ?_
    have hR3 := hR.up s3.t
    -- links, is_even
    refine s_parM (p := p) (m := n + 44) (A := fun v Hx => ∃ L, v = .ref L ∧ L ≠ p ∧ H3 L = none ∧ Ls [] v Hx) (B := fun v _ => ∃ b, v = .bl b) (ema_cons (P := fun v Hx => ∃ L, v = .ref L ∧ L ≠ p ∧ H3 L = none ∧ Ls [] v Hx) (em_ev (ev_lst0.imp fun v Hx _ ⟨L, e, hL, hl⟩ => ⟨L, e, fun z => hp3.ne (z ▸ hL), hL, hl⟩) hp3) (fun v Ha Hb s ⟨L, e, nL, hL, hl⟩ => ⟨L, e, nL, hL, ls_smp hl (fun z => nL (by rw [e] at z; cases z; rfl)) s⟩) fun H4 s4 hp4 => ema_cons (em_eqV (em_take rfl (ev_int (i := 2)) (by decide) (by decide) hp4 (by omega))) (fun _ _ _ _ h => h) fun H5 _ hp5 => ema_nil (hp5.mono (by omega))) fun v7 v8 H4 s4 hp4 ⟨L, e7, nL, hL3, hl⟩ ⟨ev, e8⟩ => ?_
    subst e7 e8
    refine nx_of ?_
    have s13 := (s1.trans s2).trans s3
    have hL := (smp_none hp3 s13 hL3).1
    obtain ⟨⟨a6, x6, rfl, l6, r6⟩, n6⟩ := lp
    have n6L : a6 ≠ L := fun z => by rw [z, hL3] at l6; cases l6
    have n6p : a6 ≠ p := fun z => n6 (by rw [z])
    have sok : ∀ x ∈ R, PyData.strOk x = true := fun x hx => (ro.nm x hx).ok
    -- for a, b in pairs
    refine s_forLq (Pd := fun ds a => ds = ps.map prD ∧ a = a6) (fun Hx sx Q q => ⟨.ref a6, rfl, q _ Hx (Same.refl _) ⟨_, a6, x6, ⟨rfl, rfl⟩, rfl, sx _ _ (s4.x _ _ n6p l6), (r6.up s4.t).sm sx⟩⟩) (fun ds H5 i σ' H6 => ∃ (lks : List Lk) (a9 a10 a11 : Option V), σ' = [some (.ref p), some (.int 2), some (.int 5), some (.int 4), some (.int many), some v5, some (.ref a6), some (.ref L), some (.bl ev), a9, a10, a11] ∧ SmP p H H6 ∧ Tk H5 H6 ∧ Tk H3 H6 ∧ Sm2 p L H5 H6 ∧ Pot p (n + 44 + 6 * i) H6 ∧ Ls (lks.map lkD) (.ref L) H6 ∧ lks.map prL = ps.take i ∧ ∀ l ∈ lks, 1 ≤ l.2.2.1 ∧ 1 ≤ l.2.2.2)
      (fun ds a H5 _ s5 => ⟨[], _, _, _, rfl, (s13.trans s4).trans (.of s5), tk_same (Same.refl _), s4.t.trans (tk_same s5), .refl _, hp4.sm s5, stb_l _ _ _ _ s5 hl, rfl, fun _ h => by cases h⟩) (fun ds H5 i σ' H6 s5 ⟨lks, a9, a10, a11, e, g1, g2, g3, _⟩ => g2) (fun ds H5 a xs i σ' H6 hd h5 s5 ⟨lks, a9, a10, a11, e, g1, g2, g3, g4, _⟩ => by
        obtain ⟨_, rfl⟩ := hd
        exact g4 _ _ n6p n6L h5) ?_ ?_
    · rintro ds a H5 i d v σ' H6 ⟨rfl, rfl⟩ s5 hd ⟨lks, a9, a10, a11, rfl, g1, g2, g3, g4, g5, g6, g7, g8⟩ rv
      rw [List.getElem?_map] at hd
      cases hk : ps[i]? with
      | none => rw [hk] at hd; cases hd
      | some q =>
        rw [hk] at hd
        cases hd
        have hi : i < ps.length := (List.getElem?_eq_some_iff.mp hk).1
        refine g_two rv ?_
        have far : ∀ {Hx : Hp} {σ : L2.St} {c : Nat}, σ[0]? = some (some (.ref p)) → Pot p c Hx → c + 3 ≤ 10 ^ 15 → Em p (tCall spFar [] E0 (tCons (tVar 0) tNil)) σ Hx (c + 3) G1 := fun {Hx σ c} e hp hc => em_call (ema_ev (ea_x (ev_varX e) ea_nil) hp) fun vs H7 s7 hp7 ⟨v, r, e1, p1, e2⟩ Q k => by
          subst e1 e2
          obtain rfl : v = .ref p := p1
          exact ⟨p, c, rfl, hp7, hc, fun i H8 hi s8 hp8 => k _ H8 s8 hp8 ⟨i, rfl, hi⟩⟩
        refine s_setM (p := p) (m := n + 44 + 6 * i + 3) (far rfl g5 (by omega)) fun v11 H7 s7 hp7 ⟨th, e11, hth⟩ => ?_
        subst e11
        refine nx_of ?_
        have g6' := ls_smp g6 (fun z => nL (by cases z; rfl)) s7
        have lkl : lks.length ≤ 16 := by
          have := congrArg List.length g7
          rw [List.length_map, List.length_take] at this
          omega
        refine s_appendM (p := p) (m := n + 44 + 6 * i + 6) (Pd := fun d => ∃ bk : Int, 1 ≤ bk ∧ d = lkD (q.1, q.2, th, bk)) g6' nL hp7 (ev_varX rfl) (fun H8 s8 Q k => ?_) (by rw [List.length_map]; omega) fun d H8 o ⟨bk, hbk, ed⟩ s8 hp8 t8 l8 => ?_
        · have hp8 := hp7.sm s8
          refine ⟨.str q.1, rfl, .str q.2, rfl, .int th, rfl, ?_⟩
          refine em_if (p := p) (P := G1) (q := fun _ => True) (n := n + 44 + 6 * i + 3) (m := n + 44 + 6 * i + 6) (emt_B (em_ev ((ev_varX rfl : Ev (tVar 8) _ H8 (Ex (.bl ev))).imp fun v _ _ e => ⟨ev, e, trivial⟩) hp8)) (fun _ H9 s9 hp9 => (em_ev ((ev_varX rfl : Ev (tVar 11) _ H9 (Ex (.int th))).imp fun v _ _ e => ⟨th, e, hth⟩) hp9).mono (by omega)) (fun _ H9 s9 hp9 => far rfl hp9 (by omega)) _ fun u H9 s9 hp9 ⟨bk, eb, hb⟩ => ?_
          subst eb
          refine ⟨by show 4 ≤ sizeLine; decide, fun t ht => k _ _ (s9.trans (.of (same_new ht))) (hp9.sm (same_new ht)) ⟨_, ⟨bk, hb, rfl⟩, .tup upd_same (.cons (.str _) (.cons (.str _) (.cons (.int _) (.one (.int _)))))⟩⟩
        · subst ed
          rw [show lks.map lkD ++ [lkD (q.1, q.2, th, bk)] = (lks ++ [(q.1, q.2, th, bk)]).map lkD from by rw [List.map_append] <;> rfl] at l8
          refine (show ∃ (lks : List Lk) (a9 a10 a11 : Option V), _ ∧ SmP p H _ ∧ Tk H5 _ ∧ Tk H3 _ ∧ Sm2 p L H5 _ ∧ Pot p (n + 44 + 6 * (i + 1)) _ ∧ Ls (lks.map lkD) (.ref L) _ ∧ lks.map prL = ps.take (i + 1) ∧ ∀ l ∈ lks, 1 ≤ l.2.2.1 ∧ 1 ≤ l.2.2.2 from ⟨lks ++ [(q.1, q.2, th, bk)], _, _, _, rfl, SmP.updL hL ((g1.trans s7).trans s8) t8, ((g2.trans s7.t).trans s8.t).trans t8, ((g3.trans s7.t).trans s8.t).trans t8, ((SmP.sm2 (SmP.sm2 g4 s7) s8).upL), (hp8.mono (by omega)).updL nL, l8, ?_, fun l hl => ?_⟩)
          · rw [List.map_append, g7, take_succ hk] <;> rfl
          · rcases List.mem_append.mp hl with hl | hl
            · exact g8 l hl
            · rw [List.mem_singleton.mp hl]
              exact ⟨hth, hbk⟩
    · rintro ds a H5 σ' H6 ⟨rfl, rfl⟩ s5 ⟨lks, a9, a10, a11, rfl, g1, g2, g3, g4, g5, g6, g7, g8⟩
      rw [List.length_map] at g5 g7
      rw [List.take_length] at g7
      refine nx_of ?_
      have lkl : lks.length ≤ 16 := by
        have := congrArg List.length g7
        rw [List.length_map] at this
        omega
      have hdd : ∀ l ∈ lks, ∀ m ∈ lks, prL l = prL m → l = m := fun l hl m hm e => by
        have nd : (lks.map prL).Nodup := by rw [g7]; exact po.nod
        obtain ⟨i, hi⟩ := List.getElem?_of_mem hl
        obtain ⟨j, hj⟩ := List.getElem?_of_mem hm
        have ei : (lks.map prL)[i]? = some (prL l) := by rw [List.getElem?_map, hi] <;> rfl
        have ej : (lks.map prL)[j]? = some (prL m) := by rw [List.getElem?_map, hj] <;> rfl
        obtain ⟨hi', ei'⟩ := List.getElem?_eq_some_iff.mp ei
        obtain ⟨hj', ej'⟩ := List.getElem?_eq_some_iff.mp ej
        have : i = j := (List.getElem_inj nd).mp (by rw [ei', ej', e])
        rw [this, hj] at hi
        exact (Option.some.inj hi).symm
      refine s_ret (ev_tupP (Ps := [Dd (tupS R), fun v H' => ∃ ls' : List Lk, Rp H' v (lksD ls') ∧ ls'.Pairwise (fun l m => Lt2 (prL l) (prL m)) ∧ ∀ l, l ∈ ls' ↔ l ∈ lks]) (ea_d (ev_varD rfl (hR3.up g3)) (ea_cons ((ev_tupXp (q := fun ds => ∃ ls' : List Lk, ds = ls'.map lkD ∧ ls'.Pairwise (fun l m => Lt2 (prL l) (prL m)) ∧ ∀ l, l ∈ ls' ↔ l ∈ lks) ((ev_ssLk (ev_var rfl g6 (stb_l _)) (by omega) hdd).imp fun v Hx _ ⟨ls', h1, h2, h3⟩ => ⟨_, h1, ls', rfl, h2, h3⟩)).imp fun v Hx _ ⟨ds, h1, ls', e, h2, h3⟩ => ⟨ls', by rw [e] at h1; exact h1, h2, h3⟩) (fun v Ha Hb s ⟨ls', h, r⟩ => ⟨ls', h.sm s, r⟩) ea_nil)) (by simp) (fun Pp hP => ?_)) fun v H7 s7 ⟨t, xs, et, ht, v1, r1, e1, q1, v2, r2, e2, ⟨ls', q2, q3, q4⟩, e3⟩ => ?_
      · rcases List.mem_cons.mp hP with rfl | hP
        · exact stb_d _
        · rw [List.mem_singleton.mp hP]
          exact fun v Ha Hb s ⟨ls', h, r⟩ => ⟨ls', h.sm s, r⟩
      · subst et e1 e2 e3
        refine k _ H7 R ls' (g1.trans (.of s7)) ((g5.sm s7).mono (by omega)) (.tup ht (.cons q1 (.one q2))) ⟨ro, r5, ?_, fun l hl => ?_, q3⟩
        · have nd : ls'.Nodup := q3.imp fun {l m} h (z : l = m) => by
            rw [z] at h
            rcases h with h | ⟨_, h⟩ <;> exact lt_irrefl _ h
          have := nodup_leG nd fun l hl => (q4 l).mp hl
          omega
        · have hl' := (q4 l).mp hl
          have hp' : prL l ∈ ps := g7 ▸ List.mem_map.mpr ⟨l, hl', rfl⟩
          obtain ⟨o1, o2, o3⟩ := po.ok _ hp'
          obtain ⟨b1, b2⟩ := g8 l hl'
          exact ⟨o1, o2, o3, b1, b2⟩
end
end Qt
/-! QLh: _law_made, _law_with, _law_without, _law_shifted. -/
namespace Qt
open PySem PySem.Spec PyProof.Rows L2
theorem dist_of {lks : List Lk} (nd : (lks.map prL).Nodup) : ∀ l ∈ lks, ∀ m ∈ lks, prL l = prL m → l = m := fun l hl m hm e => by
  obtain ⟨i, hi⟩ := List.getElem?_of_mem hl
  obtain ⟨j, hj⟩ := List.getElem?_of_mem hm
  have ei : (lks.map prL)[i]? = some (prL l) := by rw [List.getElem?_map, hi] <;> rfl
  have ej : (lks.map prL)[j]? = some (prL m) := by rw [List.getElem?_map, hj] <;> rfl
  obtain ⟨hi', ei'⟩ := List.getElem?_eq_some_iff.mp ei
  obtain ⟨hj', ej'⟩ := List.getElem?_eq_some_iff.mp ej
  have : i = j := (List.getElem_inj nd).mp (by rw [ei', ej', e])
  rw [this, hj] at hi
  exact (Option.some.inj hi).symm
theorem lt2_irr {q : Str × Str} (h : Lt2 q q) : False := by
  rcases h with h | ⟨_, h⟩ <;> exact lt_irrefl _ h
theorem LsOk.nodp {R : List Str} {ls : List Lk} (h : LsOk R ls) : (ls.map prL).Nodup := List.pairwise_map.mpr (h.asc.imp fun {l m} (h : Lt2 (prL l) (prL m)) (z : prL l = prL m) => lt2_irr (z ▸ h))
theorem ls_sorted {R : List Str} {lks ls' : List Lk} (h1 : ls'.Pairwise (fun l m => Lt2 (prL l) (prL m))) (h2 : ∀ l, l ∈ ls' ↔ l ∈ lks) (h3 : lks.length ≤ 16) (h4 : ∀ l ∈ lks, LkOk R l) : LsOk R ls' := by
  refine ⟨?_, fun l hl => h4 l ((h2 l).mp hl), h1⟩
  have nd : ls'.Nodup := h1.imp fun {l m} h (z : l = m) => lt2_irr (by rw [z] at h; exact h)
  have := nodup_leG nd fun l hl => (h2 l).mp hl
  omega
theorem cut2 (l : Lk) : PyData.tuple (cutD [.str l.1, .str l.2.1, .int l.2.2.1, .int l.2.2.2] none (some 2)) = prD (prL l) := by
  rw [cutD_hi _ (by decide)] <;> rfl
section
variable {K : PySem.W.Frag} {σ : L2.St} {H : Hp} {te ta : TE} {R : List Str} {ls : List Lk} {l : Lk} {a b : Str}
theorem ev_w0 (h : Ev te σ H (Dd (worldD R ls))) : Ev (tOp (rIxT K) te (tC (.int 0))) σ H (Dd (tupS R)) := ev_ixT (j := 0) h ev_int rfl rfl
theorem ev_w1 (h : Ev te σ H (Dd (worldD R ls))) : Ev (tOp (rIxT K) te (tC (.int 1))) σ H (Dd (lksD ls)) := ev_ixT (j := 1) h ev_int rfl rfl
theorem ev_cut2 (h : Ev te σ H (Dd (lkD l))) : Ev (tSl (rSlA K) te tNoPart (tPart (tC (.int 2)))) σ H (Dd (prD (prL l))) := ev_is (ev_slT h eo_none (eo_some (ev_int (i := 2)))) (cut2 l)
theorem ev_prNe {q r : Str × Str} {tb : TE} (ha : Ev ta σ H (Dd (prD q))) (hb : Ev tb σ H (Dd (prD r))) (hq : PyData.strOk q.1 = true ∧ PyData.strOk q.2 = true) (hr : PyData.strOk r.1 = true ∧ PyData.strOk r.2 = true) : Ev (tOp (rNeD K) ta tb) σ H (Dd (.bool (!decide (q = r)))) := by
  have sh : ∀ q : Str × Str, PyData.strOk q.1 = true ∧ PyData.strOk q.2 = true → SeqAt.shaped (prD q) = true := fun q h => shaped_tupS (R := [q.1, q.2]) fun x hx => by
    rcases List.mem_cons.mp hx with rfl | hx
    · exact h.1
    · rw [List.mem_singleton.mp hx]; exact h.2
  refine ev_is (ev_neD ha (stb_d _) hb (fun _ _ p => Rp.dp _ _ p) (fun _ _ p => Rp.dp _ _ p) (sh q hq) (sh r hr)) ?_
  have e := any_prs r [q]
  rw [List.map_cons, List.map_nil, List.any_cons, List.any_nil, Bool.or_false] at e
  have e2 : decide (r ∈ [q]) = decide (q = r) := by
    by_cases h : q = r
    · simp [h]
    · have h' : ¬ r = q := fun z => h z.symm
      simp [h, h']
  rw [e, e2]
theorem ev_prEq {q r : Str × Str} {tb : TE} (ha : Ev ta σ H (Dd (prD q))) (hb : Ev tb σ H (Dd (prD r))) (hq : PyData.strOk q.1 = true ∧ PyData.strOk q.2 = true) (hr : PyData.strOk r.1 = true ∧ PyData.strOk r.2 = true) : Ev (tOp (rEqD K) ta tb) σ H (Dd (.bool (decide (q = r)))) := by
  have sh : ∀ q : Str × Str, PyData.strOk q.1 = true ∧ PyData.strOk q.2 = true → SeqAt.shaped (prD q) = true := fun q h => shaped_tupS (R := [q.1, q.2]) fun x hx => by
    rcases List.mem_cons.mp hx with rfl | hx
    · exact h.1
    · rw [List.mem_singleton.mp hx]; exact h.2
  refine ev_is (ev_eqD ha (stb_d _) hb (fun _ _ p => Rp.dp _ _ p) (fun _ _ p => Rp.dp _ _ p) (sh q hq) (sh r hr)) ?_
  have e := any_prs r [q]
  rw [List.map_cons, List.map_nil, List.any_cons, List.any_nil, Bool.or_false] at e
  have e2 : decide (r ∈ [q]) = decide (q = r) := by
    by_cases h : q = r
    · simp [h]
    · have h' : ¬ r = q := fun z => h z.symm
      simp [h, h']
  rw [e, e2]
theorem ev_prT {tb : TE} (ha : Ev ta σ H (Dd (.str a))) (hb : Ev tb σ H (Dd (.str b))) : Ev (tTup (tCons ta (tCons tb tNil))) σ H (Dd (prD (a, b))) := ev_tup (ds := [.str a, .str b]) (ea_d ha (ea_d hb ea_nil)) (by simp)
end
/-- a filter of links, as data -/
def unL : PyData → Lk
  | .tuple [.str a, .str b, .int c, .int d] => (a, b, c, d)
  | _ => (⟨#[]⟩, ⟨#[]⟩, 0, 0)
theorem filter_lks (f : Lk → Bool) : ∀ ls : List Lk, ((ls.map lkD).filter fun d => f (unL d)).map id = (ls.filter f).map lkD
  | [] => rfl
  | l :: ls => by
    have ih := filter_lks f ls
    rw [List.map_cons, List.filter_cons, List.filter_cons]
    show List.map id (if f l = true then _ else _) = _
    split
    · rw [List.map_cons, List.map_cons, ih]; rfl
    · exact ih
theorem ev_lcLk {K : PySem.W.Frag} {σ : L2.St} {H : Hp} {tl : TE} {tt : TT} {j : Nat} {vs : List Nat} {ls : List Lk} (f : Lk → Bool) (h : Ev tl σ H (Dd (lksD ls))) (hz : ls.length ≤ 50000) (hw : ∀ v, wipe ((wipe σ vs).set j (some v)) vs = wipe σ vs) (hj : ∀ v, ((wipe σ vs).set j (some v))[j]? = some (some v))
    (turn : ∀ l ∈ ls, ∀ v H1, Same H H1 → Rp H1 v (lkD l) → EvT tt ((wipe σ vs).set j (some v)) H1 (f l)) :
    Ev (tLc (iTup K tl) (gName j) tt (tVar j) vs) σ H (Ls ((ls.filter f).map lkD)) := by
  rw [← filter_lks f ls]
  refine ev_lcT (fun d => f (unL d)) id h (by rw [List.length_map]; exact hz) hw fun d hd v H1 s r => ?_
  obtain ⟨l, hl, rfl⟩ := List.mem_map.mp hd
  exact ⟨turn l hl v H1 s r, fun _ => ev_varD (hj v) r⟩
section
variable {P : Program} {w : World} {K : PySem.W.Frag} {mg : Str → Option Value} {base : Heap} {CN : Addr}
abbrev sMade : Stmt := top 63
theorem scMade : FnScope ["_law_world_here"] ["_law_world_here"] (defScope sMade) := ⟨rfl, rfl, rfl, by decide +kernel, rfl, by decide +kernel, by decide +kernel⟩
def spMade (CN : Addr) : Sp := fun vs H Q _ => ∃ (v : V) (R : List Str) (ls : List Lk), vs = [v] ∧ Rp H v (worldD R ls) ∧ WdOk R ls ∧ ∀ v H', Same H H' → NetD CN R ls v H' → Q v H'
theorem cal_made (D : Std K mg "_law_made" sMade) (T : Gc mg) (Cinit : Mcal P w K mg base CN "__init__" ["self", "routers", "links"] 5 (spNetInit CN)) (M : ∃ f, Mk K CN f) (hat : mg "Net" = some (.ref CN)) : Cal P w K mg base "_law_made" ["_law_world_here"] 7 (spMade CN) := by
  refine D.cal scMade (fun vs H Q E h => ?_) (fun _ _ _ _ _ _ us hl => match us, hl with | [_], _ => rfl) (fun f cdv A outer s H vs Q E hr h => ?_)
  · obtain ⟨v, R, ls, rfl, _⟩ := h
    rfl
  · obtain ⟨v, R, ls, rfl, h1, wd, k⟩ := h
    have nd := scMade.nd
    refine ⟨_, (pss_one (ps_ret (pe_mk Cinit M (hr.mono (by decide)) hat (pa_cons (pe_ix (k_ixT (K := K)) (pv 0) pe_int (fun _ _ => rfl)) (pa_cons (pe_ix (k_ixT (K := K)) (pv 0) pe_int (fun _ _ => rfl)) pa_nil))))), ?_⟩
    exact s_ret (ev_mkNet (ea_d (ev_w0 (ev_varD rfl h1)) (ea_d (ev_w1 (ev_varD rfl h1)) ea_nil)) wd.r wd.l) k
abbrev sWith : Stmt := top 68
theorem scWith : FnScope ["_law_world_here", "_law_a", "_law_b", "_law_there", "_law_back", "_law_kept", "_law_link"] ["_law_world_here", "_law_a", "_law_b", "_law_there", "_law_back"] (defScope sWith) := ⟨rfl, rfl, rfl, by decide +kernel, rfl, by decide +kernel, by decide +kernel⟩
def spWith : Sp := fun vs H Q _ => ∃ (v : V) (R : List Str) (ls : List Lk) (a b : Str) (t k : Int), vs = [v, .str a, .str b, .int t, .int k] ∧ Rp H v (worldD R ls) ∧ WdOk R ls ∧ a ∈ R ∧ b ∈ R ∧ Lt a b ∧ 1 ≤ t ∧ 1 ≤ k ∧ (ls.length < 16 ∨ ∃ l ∈ ls, prL l = (a, b)) ∧ ∀ v H' ls', Same H H' → Rp H' v (worldD R ls') → WdOk R ls' → Q v H'
theorem cal_with (D : Std K mg "_law_with" sWith) (T : Gc mg) : Cal P w K mg base "_law_with" ["_law_world_here", "_law_a", "_law_b", "_law_there", "_law_back"] 1 spWith := by
  refine D.cal scWith (fun vs H Q E h => ?_) (fun _ _ _ _ _ _ us hl => match us, hl with | [_, _, _, _, _], _ => rfl) (fun f cdv A outer s H vs Q E hr h => ?_)
  · obtain ⟨v, R, ls, a, b, t, k, rfl, _⟩ := h
    rfl
  · obtain ⟨v, R, ls, a, b, t, k0, rfl, h1, wd, ha, hb, hab, ht, hk, hsz, k⟩ := h
    have nd := scWith.nd
    have sok : ∀ x ∈ R, PyData.strOk x = true := fun x hx => (wd.r.nm x hx).ok
    refine ⟨_, (pss_cons (ps_setLc (i := 5) (own := [("_law_link", 6)]) rfl nd rfl rfl (sw_true rfl rfl rfl (by decide +kernel)) (k_piT (K := K) (pe_ix (k_ixT (K := K)) (pv 0) pe_int (fun _ _ => rfl))) (blkOk_by (by kernel_rfl)) (fun _ _ _ _ _ => (pg_name (i := 6) nd rfl (Or.inl rfl))) (fun _ _ _ _ _ => (pts_one (pt_cmpR (k_neD (K := K) hr.units) (pe_slice (k_slT (K := K)) (pv 6) po_none (po_some pe_int)) (pe_tup (pa_cons (pv 1) (pa_cons (pv 2) pa_nil))) (nomark _)))) (fun _ _ _ _ _ => (pv 6)))
 (pss_one (ps_ret (pe_tup (pa_cons (pe_ix (k_ixT (K := K)) (pv 0) pe_int (fun _ _ => rfl)) (pa_cons (pe_callTy (k_tup (K := K)) (by rfl) T.b.tuple (by decide +kernel) (pa_cons (pe_ssT (K := K) rfl hr.units (by rfl) T.b.sorted (by rfl) T.b.set (pe_op op_cat (pv 5) (pe_lst (pa_cons (pe_tup (pa_cons (pv 1) (pa_cons (pv 2) (pa_cons (pv 3) (pa_cons (pv 4) pa_nil))))) pa_nil)))) pa_nil)) pa_nil)))))), ?_⟩
    have l16 := wd.l.few
    refine s_set (P := Ls ((ls.filter fun l => !decide (prL l = (a, b))).map lkD)) (ev_lcLk (fun l => !decide (prL l = (a, b))) (ev_w1 (ev_varD rfl h1)) (by omega) (fun _ => rfl) (fun _ => rfl) fun l hl v' H1 s1 r1 => et_test (ev_prNe (ev_cut2 (ev_varD rfl r1)) (ev_prT (ev_varS rfl) (ev_varS rfl)) ⟨sok _ (wd.l.ok l hl).a, sok _ (wd.l.ok l hl).b⟩ ⟨sok a ha, sok b hb⟩)) fun v5 H1 s1 p1 => ?_
    refine nx_of ?_
    have fl : (ls.filter fun l => !decide (prL l = (a, b))).length + 1 ≤ 16 := by
      rcases hsz with h | ⟨l, hl, e⟩
      · have := List.length_filter_le (fun l => !decide (prL l = (a, b))) ls
        omega
      · have h1 : (ls.filter fun l => !decide (prL l = (a, b))).length < ls.length := by
          refine Nat.lt_of_le_of_ne (List.length_filter_le _ _) fun z => ?_
          have := (List.length_filter_eq_length_iff.mp z) l hl
          simp [e] at this
        omega
    have hnd : (((ls.filter fun l => !decide (prL l = (a, b))) ++ [(a, b, t, k0)]).map prL).Nodup := by
      rw [List.map_append]
      refine List.nodup_append.mpr ⟨wd.l.nodp.sublist (List.filter_sublist.map _), by simp, fun q hq r hr e => ?_⟩
      obtain ⟨l, hl, rfl⟩ := List.mem_map.mp hq
      have h2 := (List.mem_filter.mp hl).2
      rw [List.map_cons, List.map_nil, List.mem_singleton] at hr
      rw [hr] at e
      have e' : prL l = (a, b) := e
      simp [e'] at h2
    have hok : ∀ l ∈ (ls.filter fun l => !decide (prL l = (a, b))) ++ [(a, b, t, k0)], LkOk R l := fun l hl => by
      rcases List.mem_append.mp hl with hl | hl
      · exact wd.l.ok l (List.mem_filter.mp hl).1
      · rw [List.mem_singleton.mp hl]
        exact ⟨ha, hb, hab, ht, hk⟩
    have hl16 : ((ls.filter fun l => !decide (prL l = (a, b))) ++ [(a, b, t, k0)]).length ≤ 16 := by
      rw [List.length_append, List.length_singleton]
      exact fl
    have ec : Ev (tOp rCat (tVar 5) (tLst (tCons (tTup (tCons (tVar 1) (tCons (tVar 2) (tCons (tVar 3) (tCons (tVar 4) tNil))))) tNil))) ((L2.start ["_law_world_here", "_law_a", "_law_b", "_law_there", "_law_back", "_law_kept", "_law_link"] [v, .str a, .str b, .int t, .int k0]).set 5 (some v5)) H1 (Ls (((ls.filter fun l => !decide (prL l = (a, b))) ++ [(a, b, t, k0)]).map lkD)) := by
      rw [List.map_append]
      exact ev_catL (ev_var rfl p1 (stb_l _)) (ev_lst (ds := [lkD (a, b, t, k0)]) (ea_d (ev_tup (ds := [.str a, .str b, .int t, .int k0]) (ea_d (ev_varS rfl) (ea_d (ev_varS rfl) (ea_d (ev_varI rfl) (ea_d (ev_varI rfl) ea_nil)))) (by simp)) ea_nil) (by simp)) (by rw [List.length_map]; show _ + 1 ≤ _; omega)
    generalize (ls.filter fun l => !decide (prL l = (a, b))) ++ [(a, b, t, k0)] = lks at hnd hok hl16 ec
    refine s_ret (ev_tupP (Ps := [Dd (tupS R), fun v H' => ∃ ls' : List Lk, Rp H' v (lksD ls') ∧ LsOk R ls']) (ea_d (ev_w0 (ev_varD rfl (h1.sm s1))) (ea_cons ((ev_tupXp (q := fun ds => ∃ ls' : List Lk, ds = ls'.map lkD ∧ LsOk R ls') ((ev_ssLk ec (by omega) (dist_of hnd)).imp fun v Hx _ ⟨ls', h1, h2, h3⟩ => ⟨_, h1, ls', rfl, ls_sorted h2 h3 hl16 hok⟩)).imp fun v Hx _ ⟨ds, h1, ls', e, h2⟩ => ⟨ls', by rw [e] at h1; exact h1, h2⟩) (fun v Ha Hb s ⟨ls', h, r⟩ => ⟨ls', h.sm s, r⟩) ea_nil)) (by simp) (fun Pp hP => ?_)) fun v H7 s7 ⟨t, xs, et, ht, v1, r1, e1, q1, v2, r2, e2, ⟨ls', q2, q3⟩, e3⟩ => ?_
    · rcases List.mem_cons.mp hP with rfl | hP
      · exact stb_d _
      · rw [List.mem_singleton.mp hP]
        exact fun v Ha Hb s ⟨ls', h, r⟩ => ⟨ls', h.sm s, r⟩
    · subst et e1 e2 e3
      exact k _ H7 ls' (s1.trans s7) (.tup ht (.cons q1 (.one q2))) ⟨wd.r, wd.five, q3⟩
abbrev sWithout : Stmt := top 69
theorem scWithout : FnScope ["_law_world_here", "_law_a", "_law_b", "_law_link"] ["_law_world_here", "_law_a", "_law_b"] (defScope sWithout) := ⟨rfl, rfl, rfl, by decide +kernel, rfl, by decide +kernel, by decide +kernel⟩
def spWithout : Sp := fun vs H Q _ => ∃ (v : V) (R : List Str) (ls : List Lk) (a b : Str), vs = [v, .str a, .str b] ∧ Rp H v (worldD R ls) ∧ WdOk R ls ∧ a ∈ R ∧ b ∈ R ∧ ∀ v H' ls', Same H H' → Rp H' v (worldD R ls') → WdOk R ls' → Q v H'
theorem cal_without (D : Std K mg "_law_without" sWithout) (T : Gc mg) : Cal P w K mg base "_law_without" ["_law_world_here", "_law_a", "_law_b"] 1 spWithout := by
  refine D.cal scWithout (fun vs H Q E h => ?_) (fun _ _ _ _ _ _ us hl => match us, hl with | [_, _, _], _ => rfl) (fun f cdv A outer s H vs Q E hr h => ?_)
  · obtain ⟨v, R, ls, a, b, rfl, _⟩ := h
    rfl
  · obtain ⟨v, R, ls, a, b, rfl, h1, wd, ha, hb, k⟩ := h
    have nd := scWithout.nd
    have sok : ∀ x ∈ R, PyData.strOk x = true := fun x hx => (wd.r.nm x hx).ok
    have l16 := wd.l.few
    refine ⟨_, (pss_one (ps_ret (pe_tup (pa_cons (pe_ix (k_ixT (K := K)) (pv 0) pe_int (fun _ _ => rfl)) (pa_cons (pe_callTy (k_tup (K := K)) (by rfl) T.b.tuple (by decide +kernel) (pa_cons (pe_lc (own := [("_law_link", 3)]) rfl nd (k_piT (K := K) (pe_ix (k_ixT (K := K)) (pv 0) pe_int (fun _ _ => rfl))) (blkOk_by (by kernel_rfl)) (fun _ _ _ _ _ => (pg_name (i := 3) nd rfl (Or.inl rfl))) (fun _ _ _ _ _ => (pts_one (pt_cmpR (k_neD (K := K) hr.units) (pe_slice (k_slT (K := K)) (pv 3) po_none (po_some pe_int)) (pe_tup (pa_cons (pv 1) (pa_cons (pv 2) pa_nil))) (nomark _)))) (fun _ _ _ _ _ => (pv 3))) pa_nil)) pa_nil))))), ?_⟩
    refine s_ret (ev_tup (ds := [tupS R, lksD (ls.filter fun l => !decide (prL l = (a, b)))]) (ea_d (ev_w0 (ev_varD rfl h1)) (ea_d (ev_tupL (ev_lcLk (fun l => !decide (prL l = (a, b))) (ev_w1 (ev_varD rfl h1)) (by omega) (fun _ => rfl) (fun _ => rfl) fun l hl v' H1 s1 r1 => et_test (ev_prNe (ev_cut2 (ev_varD rfl r1)) (ev_prT (ev_varS rfl) (ev_varS rfl)) ⟨sok _ (wd.l.ok l hl).a, sok _ (wd.l.ok l hl).b⟩ ⟨sok a ha, sok b hb⟩))) ea_nil)) (by simp)) fun v H1 s1 p1 => k v H1 _ s1 p1 ⟨wd.r, wd.five, Nat.le_trans (List.length_filter_le _ _) l16, fun l hl => wd.l.ok l (List.mem_filter.mp hl).1, wd.l.asc.sublist List.filter_sublist⟩
abbrev sShifted : Stmt := top 70
theorem scShifted : FnScope ["_law_world_here", "_law_a", "_law_b", "_law_t", "_law_link", "_law_one"] ["_law_world_here", "_law_a", "_law_b", "_law_t"] (defScope sShifted) := ⟨rfl, rfl, rfl, by decide +kernel, rfl, by decide +kernel, by decide +kernel⟩
def spShifted : Sp := fun vs H Q _ => ∃ (v : V) (R : List Str) (ls : List Lk) (a b : Str) (t : Int) (l : Lk), vs = [v, .str a, .str b, .int t] ∧ Rp H v (worldD R ls) ∧ WdOk R ls ∧ l ∈ ls ∧ prL l = (a, b) ∧ 1 ≤ l.2.2.1 + t ∧ 1 ≤ l.2.2.2 + t ∧ ∀ v H' ls', Same H H' → Rp H' v (worldD R ls') → WdOk R ls' → Q v H'
theorem cal_shifted (D : Std K mg "_law_shifted" sShifted) (T : Gc mg) (C_law_with : Cal P w K mg base "_law_with" ["_law_world_here", "_law_a", "_law_b", "_law_there", "_law_back"] 1 spWith) (C_law_without : Cal P w K mg base "_law_without" ["_law_world_here", "_law_a", "_law_b"] 1 spWithout) : Cal P w K mg base "_law_shifted" ["_law_world_here", "_law_a", "_law_b", "_law_t"] 2 spShifted := by
  refine D.cal scShifted (fun vs H Q E h => ?_) (fun _ _ _ _ _ _ us hl => match us, hl with | [_, _, _, _], _ => rfl) (fun f cdv A outer s H vs Q E hr h => ?_)
  · obtain ⟨v, R, ls, a, b, t, l, rfl, _⟩ := h
    rfl
  · obtain ⟨v, R, ls, a, b, t, l, rfl, h1, wd, hl, hp, t1, t2, k⟩ := h
    have nd := scShifted.nd
    have sok : ∀ x ∈ R, PyData.strOk x = true := fun x hx => (wd.r.nm x hx).ok
    have l16 := wd.l.few
    have lk := wd.l.ok l hl
    have e1 : l.1 = a := congrArg Prod.fst hp
    have e2 : l.2.1 = b := congrArg Prod.snd hp
    have ha : a ∈ R := e1 ▸ lk.a
    have hb : b ∈ R := e2 ▸ lk.b
    refine ⟨_, (pss_cons (ps_if (pt_cmpR op_isN (pv 3) pe_non (nomark _)) (pss_one (ps_ret (pe_cal C_law_without (hr.mono (by decide)) (pa_cons (pv 0) (pa_cons (pv 1) (pa_cons (pv 2) pa_nil)))))) pss_nil)
 (pss_cons (ps_set (i := 4) nd rfl (Or.inl rfl) (pe_ix (k_ixL (K := K)) (pe_lc (own := [("_law_one", 5)]) rfl nd (k_piT (K := K) (pe_ix (k_ixT (K := K)) (pv 0) pe_int (fun _ _ => rfl))) (blkOk_by (by kernel_rfl)) (fun _ _ _ _ _ => (pg_name (i := 5) nd rfl (Or.inl rfl))) (fun _ _ _ _ _ => (pts_one (pt_cmpR (k_eqD (K := K) hr.units) (pe_slice (k_slT (K := K)) (pv 5) po_none (po_some pe_int)) (pe_tup (pa_cons (pv 1) (pa_cons (pv 2) pa_nil))) (nomark _)))) (fun _ _ _ _ _ => (pv 5))) pe_int (fun _ _ => rfl)))
 (pss_one (ps_ret (pe_cal C_law_with (hr.mono (by decide)) (pa_cons (pv 0) (pa_cons (pv 1) (pa_cons (pv 2) (pa_cons (pe_op op_add (pe_ix (k_ixT (K := K)) (pv 4) pe_int (fun _ _ => rfl)) (pv 3)) (pa_cons (pe_op op_add (pe_ix (k_ixT (K := K)) (pv 4) pe_int (fun _ _ => rfl)) (pv 3)) pa_nil)))))))))), ?_⟩
    refine s_if (b := false) (et_test (ev_op (A := Ex (.int t)) (B := Ex .non) (P := Dd (.bool false)) (ev_varX rfl) (stb_x _) (ev_c fun _ => rfl) fun x y H1 s p1 p2 Q q => ⟨p2, ?_⟩)) (fun e => by cases e) fun _ H1 s1 => ?_
    · rw [show x = .int t from p1]
      exact q _ H1 (Same.refl _) (.bl false)
    refine nx_of ?_
    have h1' := h1.sm s1
    have ef : ls.filter (fun m => decide (prL m = (a, b))) = [l] := by
      have hd := dist_of wd.l.nodp
      have nd' : ls.Nodup := (List.pairwise_map.mp wd.l.nodp).imp fun {x y} h (z : x = y) => h (by rw [z])
      have hall : ∀ m ∈ ls.filter (fun m => decide (prL m = (a, b))), m = l := fun m hm => by
        obtain ⟨m1, m2⟩ := List.mem_filter.mp hm
        exact hd m m1 l hl (by rw [of_decide_eq_true m2, hp])
      have hin : l ∈ ls.filter (fun m => decide (prL m = (a, b))) := List.mem_filter.mpr ⟨hl, decide_eq_true hp⟩
      have nf := nd'.sublist (List.filter_sublist (p := fun m => decide (prL m = (a, b))) (l := ls))
      cases hq : ls.filter (fun m => decide (prL m = (a, b))) with
      | nil => rw [hq] at hin; cases hin
      | cons x r =>
        rw [hq] at hall nf
        have ex := hall x List.mem_cons_self
        cases r with
        | nil => rw [ex]
        | cons y r =>
          have ey := hall y (List.mem_cons_of_mem _ List.mem_cons_self)
          rw [List.nodup_cons] at nf
          exact absurd (by rw [ex, ey]; exact List.mem_cons_self) nf.1
    refine s_set (P := Dd (lkD l)) (ev_ixL (j := 0) (ds := (ls.filter fun m => decide (prL m = (a, b))).map lkD) (ev_lcLk (fun l => decide (prL l = (a, b))) (ev_w1 (ev_varD rfl h1')) (by omega) (fun _ => rfl) (fun _ => rfl) fun l hl v' H1 s1 r1 => et_test (ev_prEq (ev_cut2 (ev_varD rfl r1)) (ev_prT (ev_varS rfl) (ev_varS rfl)) ⟨sok _ (wd.l.ok l hl).a, sok _ (wd.l.ok l hl).b⟩ ⟨sok a ha, sok b hb⟩)) ev_int rfl (by rw [ef] <;> rfl)) fun v4 H2 s2 p2 => ?_
    refine nx_of ?_
    refine s_ret (P := fun v H' => ∃ ls', Rp H' v (worldD R ls') ∧ WdOk R ls') (ev_call (ea_d (ev_varD rfl (h1'.sm s2)) (ea_d (ev_varS (x := a) rfl) (ea_d (ev_varS (x := b) rfl) (ea_d (ev_add (ev_ixT (j := 2) (ev_varD rfl p2) ev_int rfl rfl) (ev_varI rfl)) (ea_d (ev_add (ev_ixT (j := 3) (ev_varD rfl p2) ev_int rfl rfl) (ev_varI rfl)) ea_nil))))) ?_) fun v H3 s3 ⟨ls', p3, w3⟩ => k v H3 ls' ((s1.trans s2).trans s3) p3 w3
    rintro vs H3 s3 ⟨v, r, rfl, p1, u, r2, rfl, p2, u3, r3, rfl, p3, u4, r4, rfl, p4, u5, r5, rfl, p5, rfl⟩ Q q
    exact ⟨v, R, ls, a, b, _, _, by rw [rp_str p2, rp_str p3, rp_int p4, rp_int p5], p1, wd, ha, hb, by have := lk.lt; rw [e1, e2] at this; exact this, t1, t2, .inr ⟨l, hl, hp⟩, fun v H4 ls' s4 p4 w4 => q v H4 s4 ⟨ls', p4, w4⟩⟩
end
end Qt
/-! QLi: _law_lengths. -/
namespace Qt
open PySem PySem.Spec PyProof.Rows L2
section
variable {σ : L2.St} {H : Hp} {to ti : TE} {a : Addr} {d : PyData} {v : V} {Q : L2.St → Hp → Prop}
theorem g_dputT {l : List (List Str × PyData)} {k : List Str} (hd : Ev to σ H (Ex (.ref a))) (hk : Ev ti σ H (Dd (tupS k))) (hv : Rp H v d) (h : DT H a l) (hz : l.length ≤ 50000) (q : ∀ H1 o, Same H H1 → DT (upd H1 a o) a (aput l k d) → Q σ (upd H1 a o)) : gSub to ti rSetD v σ H Q := hd H (Same.refl _) _ fun x H2 s2 p2 => hk H2 s2 _ fun y H3 s3 p3 => by
  obtain rfl : x = .ref a := p2
  obtain ⟨H', g, t, o, rfl⟩ := (h.sm (s2.trans s3)).put p3 (hv.sm (s2.trans s3)) hz
  exact ⟨a, _, rfl, g, q H3 o (s2.trans s3) t⟩
theorem g_dputK {l : List (Str × PyData)} {k : Str} (hd : Ev to σ H (Ex (.ref a))) (hk : Ev ti σ H (Dd (.str k))) (hv : Rp H v d) (h : DK H a l) (hz : l.length ≤ 50000) (q : ∀ H1 o, Same H H1 → DK (upd H1 a o) a (aput l k d) → Q σ (upd H1 a o)) : gSub to ti rSetD v σ H Q := hd H (Same.refl _) _ fun x H2 s2 p2 => hk H2 s2 _ fun y H3 s3 p3 => by
  obtain rfl : x = .ref a := p2
  obtain ⟨H', g, t, o, rfl⟩ := (h.sm (s2.trans s3)).put p3 (hv.sm (s2.trans s3)) hz
  exact ⟨a, _, rfl, g, q H3 o (s2.trans s3) t⟩
end
section
variable {P : Program} {w : World} {K : PySem.W.Frag} {mg : Str → Option Value} {base : Heap}
abbrev sLens : Stmt := top 64
theorem scLens : FnScope ["_law_links", "_law_found", "_law_a", "_law_b", "_law_there", "_law_back"] ["_law_links"] (defScope sLens) := ⟨rfl, rfl, rfl, by decide +kernel, rfl, by decide +kernel, by decide +kernel⟩
def spLens : Sp := fun vs H Q _ => ∃ (v1 : V) (ls : List Lk), vs = [v1] ∧ Rp H v1 (lksD ls) ∧ ls.length ≤ 16 ∧ ∀ a H', Same H H' → DT H' a (leD (lens ls)) → Q (.ref a) H'
theorem cal_lens (D : Std K mg "_law_lengths" sLens) (T : Gc mg) : Cal P w K mg base "_law_lengths" ["_law_links"] 1 spLens := by
  refine D.cal scLens (fun vs H Q E h => ?_) (fun _ _ _ _ _ _ us hl => match us, hl with | [_], _ => rfl) (fun f cdv A outer s H vs Q E hr h => ?_)
  · obtain ⟨v1, ls, rfl, _⟩ := h
    rfl
  · obtain ⟨v1, ls, rfl, h1, h8, k⟩ := h
    have nd := scLens.nd
    have hu := hu_of hr
    refine ⟨_, (pss_cons (ps_set (i := 1) nd rfl (Or.inl rfl) pe_dnewT)
 (pss_cons (ps_for PassesOwn.never rfl (k_piT (K := K) (pv 0)) (k_tgT (K := K) (n := 4) rfl (pgs_cons (pg_name (i := 2) nd rfl (Or.inl rfl)) (pgs_cons (pg_name (i := 3) nd rfl (Or.inl rfl)) (pgs_cons (pg_name (i := 4) nd rfl (Or.inl rfl)) (pgs_cons (pg_name (i := 5) nd rfl (Or.inl rfl)) pgs_nil)))))
 (pss_one (ps_asg (pe_tup (pa_cons (pv 4) (pa_cons (pv 5) pa_nil))) (k_tgT (K := K) (n := 2) rfl (pgs_cons (pg_sub (pv 1) (pe_tup (pa_cons (pv 2) (pa_cons (pv 3) pa_nil))) (set_dict hu)) (pgs_cons (pg_sub (pv 1) (pe_tup (pa_cons (pv 3) (pa_cons (pv 2) pa_nil))) (set_dict hu)) pgs_nil))))))
 (pss_one (ps_ret (pv 1))))), ?_⟩
    refine fun F hF => ?_
    have sF : Same H (upd H F (.dT [])) := same_new hF
    have kF : DT (upd H F (.dT [])) F (leD []) := ⟨_, upd_same, .nil⟩
    refine s_forT (ev_varD rfl (h1.sm sF)) (fun H1 i σ' H' => (∃ a b c d, σ' = [some v1, some (.ref F), a, b, c, d]) ∧ LeI H1 F (leD ((ls.take i).foldl lenS [])) H') (fun H1 s1 => ⟨⟨_, _, _, _, rfl⟩, .refl _, kF.sm s1⟩) (fun H1 i σ' H' s1 q => q.2.tkF (kF.sm s1)) ?_ ?_
    · rintro H1 i d v σ' H' s1 hd ⟨⟨a, b, c, e, rfl⟩, q⟩ rv
      have hd' : (ls.map lkD)[i]? = some d := hd
      rw [List.getElem?_map] at hd'
      cases hk : ls[i]? with
      | none => rw [hk] at hd'; cases hd'
      | some l =>
        rw [hk] at hd'
        cases hd'
        obtain ⟨t, xs, rfl, hT, rx⟩ := rp_tup (ds := [.str l.1, .str l.2.1, .int l.2.2.1, .int l.2.2.2]) rv
        cases rx with | cons r1 rx => cases rx with | cons r2 rx => cases rx with | cons r3 rx => cases rx with | cons r4 rx =>
        cases rx
        rw [rp_str r1, rp_str r2, rp_int r3, rp_int r4] at hT
        refine ⟨t, _, rfl, SqT.of hT, rfl, _, _, rfl, _, _, rfl, _, _, rfl, _, _, rfl, rfl, ?_⟩
        have bl : ((ls.take i).foldl lenS []).length ≤ 32 := by
          have h3 := lens_len (ls.take i) []
          rw [List.length_take] at h3
          have h4 : ([] : Le).length = 0 := rfl
          omega
        generalize hf : (ls.take i).foldl lenS [] = ff at q bl
        have ef : (ls.take (i + 1)).foldl lenS [] = lenS ff l := by rw [take_succ hk, List.foldl_append, hf] <;> rfl
        refine ⟨.int l.2.2.1, rfl, .int l.2.2.2, rfl, by show 2 ≤ sizeLine; decide, fun tt htt => ?_⟩
        have st := same_new (o := .tup [.int l.2.2.1, .int l.2.2.2]) htt
        refine ⟨tt, _, rfl, SqT.of upd_same, rfl, _, _, rfl, ?_⟩
        refine g_dputT (k := [l.1, l.2.1]) (d := .int l.2.2.1) (ev_varX rfl) (ev_tup (ds := [.str l.1, .str l.2.1]) (ea_d (ev_varS rfl) (ea_d (ev_varS rfl) ea_nil)) (by simp)) (.int _) (q.k.sm st) (by rw [leD_len]; omega) fun H2 o s2 t2 => ?_
        have b2 := aput_len ff (l.1, l.2.1) l.2.2.1
        rw [show aput (leD ff) [l.1, l.2.1] (.int l.2.2.1) = leD (aput ff (l.1, l.2.1) l.2.2.1) from (leD_put ff (l.1, l.2.1) l.2.2.1).symm] at t2
        refine ⟨_, [], rfl, ?_⟩
        refine g_dputT (k := [l.2.1, l.1]) (d := .int l.2.2.2) (ev_varX rfl) (ev_tup (ds := [.str l.2.1, .str l.1]) (ea_d (ev_varS rfl) (ea_d (ev_varS rfl) ea_nil)) (by simp)) (.int _) t2 (by rw [leD_len]; omega) fun H3 o3 s3 t3 => ?_
        rw [show aput (leD (aput ff (l.1, l.2.1) l.2.2.1)) [l.2.1, l.1] (.int l.2.2.2) = leD (lenS ff l) from (leD_put (aput ff (l.1, l.2.1) l.2.2.1) (l.2.1, l.1) l.2.2.2).symm, ← ef] at t3
        refine ⟨rfl, ?_⟩
        exact (show (∃ a b c d, _) ∧ LeI H1 F _ _ from ⟨⟨_, _, _, _, rfl⟩, ((((q.x.trans (.of st)).trans (.of s2)).upd (o := o)).trans (.of s3)).upd, t3⟩)
    · rintro H1 σ' H' s1 ⟨⟨a, b, c, e, rfl⟩, q⟩
      refine nx_of ?_
      rw [List.length_map, List.take_length] at q
      refine s_ret (ev_varX rfl) fun v H2 s2 p => ?_
      obtain rfl : v = .ref F := p
      exact k F H2 (((((SmX.of sF).trans (.of s1)).trans q.x).same (Same.refl _) hF).trans s2) (q.k.sm s2)
end
end Qt
/-! Qma: the distances, plain. -/
namespace Qt
open PySem PySem.Spec PyProof.Rows L2
structure LeOk (R : List Str) (l : Le) : Prop where
  pos : ∀ p ∈ l, 1 ≤ p.2
  key : ∀ p ∈ l, p.1.1 ∈ R ∧ p.1.2 ∈ R
  nod : (l.map (·.1)).Nodup
structure DInv (R : List Str) (l : Le) (d : Str) (D : Di) : Prop where
  z : al D d = some 0
  w : ∀ a x, al D a = some x → (a = d ∧ x = 0) ∨ ∃ b len y, ((a, b), len) ∈ l ∧ al D b = some y ∧ len + y ≤ x
  nn : ∀ a x, al D a = some x → 0 ≤ x
  key : ∀ p ∈ D, p.1 ∈ R
  nod : (D.map (·.1)).Nodup
def Stab (l : Le) (D : Di) : Prop := ∀ a b len y, ((a, b), len) ∈ l → al D b = some y → ∃ x, al D a = some x ∧ x ≤ len + y
theorem relax_cases (D : Di) (p : (Str × Str) × Int) : (relax D p = D ∧ ∀ y, al D p.1.2 = some y → ∃ x, al D p.1.1 = some x ∧ x ≤ p.2 + y) ∨ ∃ y, al D p.1.2 = some y ∧ relax D p = aput D p.1.1 (p.2 + y) ∧ ∀ z, al D p.1.1 = some z → p.2 + y < z := by
  unfold relax
  cases hb : al D p.1.2 with
  | none => exact .inl ⟨rfl, fun y h => by cases h⟩
  | some y =>
    cases ha : al D p.1.1 with
    | none => exact .inr ⟨y, rfl, rfl, fun z h => by cases h⟩
    | some z =>
      by_cases h : p.2 + y < z
      · refine .inr ⟨y, rfl, ?_, fun z' h' => by cases h'; exact h⟩
        show (if p.2 + y < z then _ else _) = _
        rw [if_pos h]
      · refine .inl ⟨?_, fun y' h' => by cases h'; exact ⟨z, rfl, by omega⟩⟩
        show (if p.2 + y < z then _ else _) = _
        rw [if_neg h]
theorem relax_edge (D : Di) (p : (Str × Str) × Int) {y : Int} (h : al D p.1.2 = some y) : ∃ x, al (relax D p) p.1.1 = some x ∧ x ≤ p.2 + y := by
  rcases relax_cases D p with ⟨e, k⟩ | ⟨y', h', e, k⟩
  · rw [e]; exact k y h
  · rw [h] at h'
    cases h'
    exact ⟨p.2 + y, by rw [e, al_put, if_pos rfl], Int.le_refl _⟩
theorem relax_mono (D : Di) (p : (Str × Str) × Int) {a : Str} {x : Int} (h : al D a = some x) : ∃ x', al (relax D p) a = some x' ∧ x' ≤ x := by
  rcases relax_cases D p with ⟨e, k⟩ | ⟨y', h', e, k⟩
  · rw [e]; exact ⟨x, h, Int.le_refl _⟩
  · rw [e, al_put]
    by_cases z : a = p.1.1
    · subst z
      rw [if_pos rfl]
      exact ⟨_, rfl, Int.le_of_lt (k x h)⟩
    · rw [if_neg z]
      exact ⟨x, h, Int.le_refl _⟩
theorem aput_keysR {D : Di} {a : Str} {x : Int} {R : List Str} (h : ∀ p ∈ D, p.1 ∈ R) (ha : a ∈ R) : ∀ p ∈ aput D a x, p.1 ∈ R := fun p hp => by
  unfold aput at hp
  split at hp
  · obtain ⟨q, hq, rfl⟩ := List.mem_map.mp hp
    split
    · exact h q hq
    · exact h q hq
  · rcases List.mem_append.mp hp with hp | hp
    · exact h p hp
    · rw [List.mem_singleton.mp hp]; exact ha
theorem DInv.relaxI {R : List Str} {l : Le} {d : Str} {D : Di} (i : DInv R l d D) (lo : LeOk R l) {p : (Str × Str) × Int} (hp : p ∈ l) : DInv R l d (relax D p) := by
  rcases relax_cases D p with ⟨e, _⟩ | ⟨y, hy, e, k⟩
  · rw [e]; exact i
  · rw [e]
    have p1 := lo.pos p hp
    have y0 := i.nn _ _ hy
    have nd : d ≠ p.1.1 := fun z => by
      have := k 0 (z ▸ i.z)
      omega
    have nb : p.1.2 ≠ p.1.1 := fun z => by
      have := k y (z ▸ hy)
      omega
    refine ⟨?_, fun a x h => ?_, fun a x h => ?_, aput_keysR i.key (lo.key p hp).1, aput_nodup i.nod _ _⟩
    · rw [al_put, if_neg nd]; exact i.z
    · rw [al_put] at h
      by_cases z : a = p.1.1
      · rw [if_pos z] at h
        cases h
        refine .inr ⟨p.1.2, p.2, y, by rw [z]; exact hp, by rw [al_put, if_neg nb]; exact hy, Int.le_refl _⟩
      · rw [if_neg z] at h
        rcases i.w a x h with h1 | ⟨b, len, y', h1, h2, h3⟩
        · exact .inl h1
        · by_cases zb : b = p.1.1
          · have := k y' (zb ▸ h2)
            exact .inr ⟨b, len, p.2 + y, h1, by rw [al_put, if_pos zb], by omega⟩
          · exact .inr ⟨b, len, y', h1, by rw [al_put, if_neg zb]; exact h2, h3⟩
    · rw [al_put] at h
      by_cases z : a = p.1.1
      · rw [if_pos z] at h
        cases h
        omega
      · rw [if_neg z] at h
        exact i.nn a x h
theorem DInv.fold {R : List Str} {l : Le} {d : Str} (lo : LeOk R l) : ∀ (l' : Le) {D : Di}, DInv R l d D → (∀ p ∈ l', p ∈ l) → DInv R l d (l'.foldl relax D)
  | [], _, i, _ => i
  | p :: l', _, i, h => DInv.fold lo l' (i.relaxI lo (h p List.mem_cons_self)) fun q hq => h q (List.mem_cons_of_mem _ hq)
theorem DInv.passI {R : List Str} {l : Le} {d : Str} {D : Di} (lo : LeOk R l) (i : DInv R l d D) : DInv R l d (pass l D) := i.fold lo l fun _ h => h
theorem DInv.zero {R : List Str} {l : Le} {d : Str} (hd : d ∈ R) : DInv R l d [(d, 0)] where
  z := al_pos rfl
  w := fun a x h => by
    by_cases z : d = a
    · rw [al_pos z] at h
      cases h
      exact .inl ⟨z.symm, rfl⟩
    · rw [al_neg z] at h
      cases h
  nn := fun a x h => by
    by_cases z : d = a
    · rw [al_pos z] at h
      cases h
      exact Int.le_refl _
    · rw [al_neg z] at h
      cases h
  key := fun p hp => by rw [List.mem_singleton.mp hp]; exact hd
  nod := by simp
theorem DInv.passesI {R : List Str} {l : Le} {d : Str} (lo : LeOk R l) (hd : d ∈ R) : ∀ n, DInv R l d (passes l n [(d, 0)])
  | 0 => .zero hd
  | n + 1 => (DInv.passesI lo hd n).passI lo
/-! not below the stable one -/
def Abv (D E : Di) : Prop := ∀ a x, al D a = some x → ∃ y, al E a = some y ∧ y ≤ x
theorem Abv.relaxA {l : Le} {D E : Di} (h : Abv D E) (st : Stab l E) {p : (Str × Str) × Int} (hp : p ∈ l) : Abv (relax D p) E := by
  rcases relax_cases D p with ⟨e, _⟩ | ⟨y, hy, e, k⟩
  · rw [e]; exact h
  · intro a x hx
    rw [e, al_put] at hx
    by_cases z : a = p.1.1
    · rw [if_pos z] at hx
      cases hx
      obtain ⟨y', h1, h2⟩ := h _ _ hy
      obtain ⟨x', h3, h4⟩ := st p.1.1 p.1.2 p.2 y' hp h1
      exact ⟨x', by rw [z]; exact h3, by omega⟩
    · rw [if_neg z] at hx
      exact h a x hx
theorem settled_keep {l : Le} {D E : Di} (h : Abv D E) (st : Stab l E) {p : (Str × Str) × Int} (hp : p ∈ l) {a : Str} (e : al D a = al E a) : al (relax D p) a = al E a := by
  have h' := h.relaxA st hp
  cases hx : al D a with
  | none =>
    rw [hx] at e
    cases hy : al (relax D p) a with
    | none => exact e
    | some y =>
      obtain ⟨z, hz, _⟩ := h' a y hy
      rw [hz] at e
      cases e
  | some x =>
    rw [hx] at e
    obtain ⟨x', h1, h2⟩ := relax_mono D p hx
    obtain ⟨y, h3, h4⟩ := h' a x' h1
    rw [h3] at e
    cases e
    rw [h1, h3]
    congr 1
    omega
theorem fold_abv {l : Le} {E : Di} (st : Stab l E) : ∀ (l' : Le) {D : Di}, Abv D E → (∀ p ∈ l', p ∈ l) → Abv (l'.foldl relax D) E ∧ ∀ a, al D a = al E a → al (l'.foldl relax D) a = al E a
  | [], _, h, _ => ⟨h, fun _ e => e⟩
  | p :: l', D, h, hl => by
    have hp := hl p List.mem_cons_self
    obtain ⟨h1, h2⟩ := fold_abv st l' (h.relaxA st hp) fun q hq => hl q (List.mem_cons_of_mem _ hq)
    exact ⟨h1, fun a e => h2 a (settled_keep h st hp e)⟩
theorem fold_settle {l : Le} {E : Di} (st : Stab l E) {a b : Str} {len y : Int} (hb : al E b = some y) (ha : al E a = some (len + y)) : ∀ (l' : Le) {D : Di}, Abv D E → (∀ p ∈ l', p ∈ l) → ((a, b), len) ∈ l' → al D b = al E b → al (l'.foldl relax D) a = al E a
  | [], _, _, _, hm, _ => by cases hm
  | p :: l', D, h, hl, hm, eb => by
    have hp := hl p List.mem_cons_self
    have hl' : ∀ q ∈ l', q ∈ l := fun q hq => hl q (List.mem_cons_of_mem _ hq)
    have h' := h.relaxA st hp
    rcases List.mem_cons.mp hm with hm | hm
    · subst hm
      obtain ⟨x, h1, h2⟩ := relax_edge D ((a, b), len) (eb.trans hb)
      obtain ⟨y', h3, h4⟩ := h' a x h1
      rw [ha] at h3
      cases h3
      have hx : x = len + y := by
        have h2' : x ≤ len + y := h2
        omega
      refine (fold_abv st l' h' hl').2 a ?_
      rw [ha, ← hx]
      exact h1
    · exact fold_settle st hb ha l' h' hl' hm (settled_keep h st hp eb)
/-- one pass settles one more -/
theorem pass_more {R : List Str} {l : Le} {d : Str} {D E : Di} (lo : LeOk R l) (iE : DInv R l d E) (st : Stab l E) (iD : DInv R l d D) (h : Abv D E) (hn : ∃ a ∈ R, al D a ≠ al E a) : ∃ a ∈ R, al D a ≠ al E a ∧ al (pass l D) a = al E a := by
  -- the least unsettled
  have key : ∀ n : Nat, ∀ a ∈ R, ∀ x, al E a = some x → x.toNat ≤ n → al D a ≠ al E a → ∃ a ∈ R, al D a ≠ al E a ∧ al (pass l D) a = al E a := by
    intro n
    induction n with
    | zero =>
      intro a ha x hx hz hne
      have x0 := iE.nn a x hx
      rcases iE.w a x hx with ⟨h1, h2⟩ | ⟨b, len, y, h1, h2, h3⟩
      · subst h1
        exact absurd (by rw [iD.z, iE.z]) hne
      · have := lo.pos _ h1
        have := iE.nn b y h2
        simp only at *
        omega
    | succ n ih =>
      intro a ha x hx hz hne
      rcases iE.w a x hx with ⟨h1, h2⟩ | ⟨b, len, y, h1, h2, h3⟩
      · subst h1
        exact absurd (by rw [iD.z, iE.z]) hne
      · have pl : 1 ≤ len := lo.pos _ h1
        have y0 := iE.nn b y h2
        by_cases hb : al D b = al E b
        · obtain ⟨x', h4, h5⟩ := st a b len y h1 h2
          rw [hx] at h4
          cases h4
          have ex : x = len + y := by omega
          exact ⟨a, ha, hne, fold_settle st h2 (by rw [hx, ex]) l h (fun _ h => h) h1 hb⟩
        · exact ih b (lo.key _ h1).2 y h2 (by omega) hb
  obtain ⟨a, ha, hne⟩ := hn
  cases hx : al E a with
  | none =>
    cases hy : al D a with
    | none => exact absurd (by rw [hx, hy]) hne
    | some y =>
      obtain ⟨z, hz, _⟩ := h a y hy
      rw [hx] at hz
      cases hz
  | some x => exact key x.toNat a ha x hx (Nat.le_refl _) hne
def cnt (R : List Str) (D E : Di) : Nat := (R.filter fun a => decide (al D a = al E a)).length
theorem filter_lt {α : Type} (p q : α → Bool) : ∀ {l : List α}, (∀ a ∈ l, p a = true → q a = true) → (∃ a ∈ l, p a = false ∧ q a = true) → (l.filter p).length < (l.filter q).length
  | [], _, ⟨a, h, _⟩ => by cases h
  | x :: l, h, ⟨a, ha, h1, h2⟩ => by
    have hle : (l.filter p).length ≤ (l.filter q).length := by
      clear h1 h2 ha
      have h' : ∀ a ∈ l, p a = true → q a = true := fun a ha => h a (List.mem_cons_of_mem _ ha)
      clear h
      induction l with
      | nil => exact Nat.le_refl _
      | cons y l ih =>
        have := ih fun a ha => h' a (List.mem_cons_of_mem _ ha)
        have hy := h' y List.mem_cons_self
        rw [List.filter_cons, List.filter_cons]
        cases hp : p y with
        | true => rw [hy hp]; simpa using this
        | false => cases q y <;> simp <;> omega
    rw [List.filter_cons, List.filter_cons]
    rcases List.mem_cons.mp ha with rfl | ha
    · rw [h1, h2]
      simp
      omega
    · have ih := filter_lt p q (l := l) (fun a ha => h a (List.mem_cons_of_mem _ ha)) ⟨a, ha, h1, h2⟩
      have hx := h x List.mem_cons_self
      cases hp : p x with
      | true => rw [hx hp]; simpa using ih
      | false => cases q x <;> simp <;> omega
theorem passes_fix {R : List Str} {l : Le} {d : Str} {E : Di} (lo : LeOk R l) (hd : d ∈ R) (iE : DInv R l d E) (st : Stab l E) : ∀ a, al (passes l R.length [(d, 0)]) a = al E a := by
  have ab0 : Abv [(d, 0)] E := fun a x h => by
    by_cases z : d = a
    · rw [al_pos z] at h
      cases h
      exact ⟨0, by rw [← z]; exact iE.z, Int.le_refl _⟩
    · rw [al_neg z] at h
      cases h
  have abk : ∀ k, Abv (passes l k [(d, 0)]) E := fun k => by
    induction k with
    | zero => exact ab0
    | succ k ih => exact (fold_abv st l ih fun _ h => h).1
  have main : ∀ k, (∀ a ∈ R, al (passes l k [(d, 0)]) a = al E a) ∨ k + 1 ≤ cnt R (passes l k [(d, 0)]) E := fun k => by
    induction k with
    | zero =>
      refine .inr ?_
      have : d ∈ R.filter fun a => decide (al (passes l 0 [(d, 0)]) a = al E a) := List.mem_filter.mpr ⟨hd, decide_eq_true (by rw [iE.z]; exact al_pos rfl)⟩
      exact List.length_pos_of_mem this
    | succ k ih =>
      by_cases hall : ∀ a ∈ R, al (passes l k [(d, 0)]) a = al E a
      · exact .inl fun a ha => (fold_abv st l (abk k) fun _ h => h).2 a (hall a ha)
      · have hn : ∃ a ∈ R, al (passes l k [(d, 0)]) a ≠ al E a := by
          refine Classical.byContradiction fun hc => hall fun a ha => Classical.byContradiction fun hne => hc ⟨a, ha, hne⟩
        rcases ih with ih | ih
        · exact absurd ih hall
        · obtain ⟨a, ha, h1, h2⟩ := pass_more lo iE st (DInv.passesI lo hd k) (abk k) hn
          refine .inr ?_
          have := filter_lt (fun a => decide (al (passes l k [(d, 0)]) a = al E a)) (fun a => decide (al (passes l (k + 1) [(d, 0)]) a = al E a)) (l := R) (fun a ha h => decide_eq_true ((fold_abv st l (abk k) fun _ h => h).2 a (of_decide_eq_true h))) ⟨a, ha, decide_eq_false h1, decide_eq_true h2⟩
          have e1 : cnt R (passes l k [(d, 0)]) E < cnt R (passes l (k + 1) [(d, 0)]) E := this
          omega
  have hall : ∀ a ∈ R, al (passes l R.length [(d, 0)]) a = al E a := by
    rcases main R.length with h | h
    · exact h
    · have : cnt R (passes l R.length [(d, 0)]) E ≤ R.length := List.length_filter_le _ _
      omega
  intro a
  by_cases ha : a ∈ R
  · exact hall a ha
  · have n1 : al (passes l R.length [(d, 0)]) a = none := al_none.mpr fun p hp z => ha (z ▸ (DInv.passesI lo hd R.length).key p hp)
    have n2 : al E a = none := al_none.mpr fun p hp z => ha (z ▸ iE.key p hp)
    rw [n1, n2]
end Qt
/-! Qmb: what falls; the tables, plain. -/
namespace Qt
open PySem PySem.Spec PyProof.Rows L2
def sumV (D : Di) : Nat := (D.map fun p => p.2.toNat).sum
def sumL (l : Le) : Nat := (l.map fun p => p.2.toNat).sum
def meas (n : Nat) (l : Le) (D : Di) : Nat := (n - D.length) * (n * sumL l + 1) + sumV D
theorem sumL_ge : ∀ {l : Le} {p : (Str × Str) × Int}, p ∈ l → p.2.toNat ≤ sumL l
  | q :: l, p, h => by
    unfold sumL
    rw [List.map_cons, List.sum_cons]
    rcases List.mem_cons.mp h with rfl | h
    · omega
    · have := sumL_ge h
      unfold sumL at this
      omega
theorem sum_repl {a : Str} {x z : Int} : ∀ {D : Di}, (D.map (·.1)).Nodup → al D a = some z → sumV (D.map fun p => if p.1 = a then (p.1, x) else p) + z.toNat = sumV D + x.toNat
  | [], _, h => by cases h
  | p :: D, n, h => by
    rw [List.map_cons, List.nodup_cons] at n
    unfold sumV
    rw [List.map_cons, List.map_cons, List.map_cons, List.sum_cons, List.sum_cons]
    by_cases e : p.1 = a
    · rw [al_pos e] at h
      cases h
      rw [if_pos e]
      have hm : (D.map fun p => if p.1 = a then (p.1, x) else p) = D := by
        refine (List.map_congr_left (g := id) fun q hq => ?_).trans (List.map_id _)
        have : q.1 ≠ a := fun z => n.1 (List.mem_map.mpr ⟨q, hq, z.trans e.symm⟩)
        rw [if_neg this] <;> rfl
      rw [hm]
      show x.toNat + _ + _ = _
      omega
    · rw [al_neg e] at h
      rw [if_neg e]
      have := sum_repl n.2 h (x := x)
      unfold sumV at this
      omega
/-- values are below the number of keys times the lengths' sum -/
def Bnd (l : Le) (D : Di) : Prop := ∀ a x, al D a = some x → x.toNat ≤ (D.length - 1) * sumL l
theorem di_len {R : List Str} {l : Le} {d : Str} {D : Di} (i : DInv R l d D) : 1 ≤ D.length ∧ D.length ≤ R.length := by
  refine ⟨?_, ?_⟩
  · have := al_mem i.z
    exact List.length_pos_of_mem this
  · have := nodup_le i.nod fun x hx => by
      obtain ⟨p, hp, rfl⟩ := List.mem_map.mp hx
      exact i.key p hp
    rw [List.length_map] at this
    exact this
/-- a pair that fires: the measure falls, the bound stays -/
theorem fire {R : List Str} {l : Le} {d : Str} {D : Di} (lo : LeOk R l) (i : DInv R l d D) (b : Bnd l D) {p : (Str × Str) × Int} (hp : p ∈ l) {y : Int} (hy : al D p.1.2 = some y) (e : relax D p = aput D p.1.1 (p.2 + y)) (k : ∀ z, al D p.1.1 = some z → p.2 + y < z) : Bnd l (relax D p) ∧ meas R.length l (relax D p) < meas R.length l D := by
  have i' := i.relaxI lo hp
  have y0 := i.nn _ _ hy
  have p1 := lo.pos p hp
  have by_ := b _ _ hy
  have pl := sumL_ge hp
  obtain ⟨l1, l2⟩ := di_len i
  obtain ⟨l3, l4⟩ := di_len i'
  rw [e] at i' l3 l4 ⊢
  have hx : (p.2 + y).toNat = p.2.toNat + y.toNat := by omega
  cases ha : al D p.1.1 with
  | some z =>
    have hz := k z ha
    have ea : aput D p.1.1 (p.2 + y) = D.map fun q => if q.1 = p.1.1 then (q.1, p.2 + y) else q := by
      unfold aput
      rw [ha] <;> rfl
    have el : (aput D p.1.1 (p.2 + y)).length = D.length := by rw [ea, List.length_map]
    refine ⟨fun a x h => ?_, ?_⟩
    · rw [el]
      rw [al_put] at h
      by_cases z' : a = p.1.1
      · rw [if_pos z'] at h
        cases h
        have := b _ _ ha
        omega
      · rw [if_neg z'] at h
        exact b a x h
    · unfold meas
      rw [el, ea]
      have := sum_repl i.nod ha (x := p.2 + y)
      omega
  | none =>
    have ea : aput D p.1.1 (p.2 + y) = D ++ [(p.1.1, p.2 + y)] := by
      unfold aput
      rw [ha] <;> rfl
    have el : (aput D p.1.1 (p.2 + y)).length = D.length + 1 := by rw [ea, List.length_append, List.length_singleton]
    have hb : (p.2 + y).toNat ≤ D.length * sumL l := by
      have h1 : D.length * sumL l = (D.length - 1) * sumL l + sumL l := by
        obtain ⟨m, hm⟩ : ∃ m, D.length = m + 1 := ⟨D.length - 1, by omega⟩
        rw [hm, Nat.succ_mul, Nat.add_sub_cancel]
      omega
    refine ⟨fun a x h => ?_, ?_⟩
    · rw [el, Nat.add_sub_cancel]
      rw [al_put] at h
      by_cases z' : a = p.1.1
      · rw [if_pos z'] at h
        cases h
        exact hb
      · rw [if_neg z'] at h
        have h1 := b a x h
        have h2 : (D.length - 1) * sumL l ≤ D.length * sumL l := Nat.mul_le_mul_right _ (by omega)
        omega
    · unfold meas
      rw [el]
      have es : sumV (aput D p.1.1 (p.2 + y)) = sumV D + (p.2 + y).toNat := by
        rw [ea]
        unfold sumV
        rw [List.map_append, List.sum_append]
        simp
      rw [es]
      have h1 : D.length * sumL l ≤ R.length * sumL l := Nat.mul_le_mul_right _ l2
      obtain ⟨m, hm⟩ : ∃ m, R.length - D.length = m + 1 := ⟨R.length - D.length - 1, by rw [el] at l4; omega⟩
      have hm' : R.length - (D.length + 1) = m := by omega
      rw [hm, hm', Nat.succ_mul]
      omega
theorem bnd0 (l : Le) (d : Str) : Bnd l [(d, 0)] := fun a x h => by
  by_cases z : d = a
  · rw [al_pos z] at h
    cases h
    exact Nat.zero_le _
  · rw [al_neg z] at h
    cases h
/-! ### the lengths of a world -/
theorem lens_ok {R : List Str} : ∀ {ls : List Lk}, (∀ l ∈ ls, LkOk R l) → LeOk R (lens ls) := fun {ls} h => by
  have g : ∀ (ls : List Lk) (f : Le), (∀ l ∈ ls, LkOk R l) → (∀ p ∈ f, 1 ≤ p.2 ∧ p.1.1 ∈ R ∧ p.1.2 ∈ R) → ∀ p ∈ ls.foldl lenS f, 1 ≤ p.2 ∧ p.1.1 ∈ R ∧ p.1.2 ∈ R := by
    intro ls
    induction ls with
    | nil => exact fun f _ h => h
    | cons l r ih =>
      intro f hl hf
      have hk := hl l List.mem_cons_self
      have pu : ∀ (f : Le) (k : Str × Str) (x : Int), (∀ p ∈ f, 1 ≤ p.2 ∧ p.1.1 ∈ R ∧ p.1.2 ∈ R) → 1 ≤ x → k.1 ∈ R → k.2 ∈ R → ∀ p ∈ aput f k x, 1 ≤ p.2 ∧ p.1.1 ∈ R ∧ p.1.2 ∈ R := fun f k x hf h1 h2 h3 p hp => by
        unfold aput at hp
        split at hp
        · obtain ⟨q, hq, rfl⟩ := List.mem_map.mp hp
          split
          · exact ⟨h1, (hf q hq).2⟩
          · exact hf q hq
        · rcases List.mem_append.mp hp with hp | hp
          · exact hf p hp
          · rw [List.mem_singleton.mp hp]
            exact ⟨h1, h2, h3⟩
      rw [List.foldl_cons]
      exact ih _ (fun m hm => hl m (List.mem_cons_of_mem _ hm)) (pu _ _ _ (pu f _ _ hf hk.there hk.a hk.b) hk.back hk.b hk.a)
  have g' := g ls [] h (fun _ h => by cases h)
  exact ⟨fun p hp => (g' p hp).1, fun p hp => (g' p hp).2, lens_nodup ls [] List.nodup_nil⟩
/-! ### the table -/
def lnext (R : List Str) (l : Le) (D : Di) (d a : Str) : List Str := (R.filter fun b => (al l (a, b)).isSome && ((al D b).isSome && !decide (a = d))).filter (fine2 l D a)
theorem lnext_eq {R : List Str} {l : Le} {d : Str} {D : Di} (lo : LeOk R l) (i : DInv R l d D) (st : Stab l D) (a : Str) : lnext R l D d a = nexts R l D a := by
  unfold lnext nexts
  by_cases had : a = d
  · subst had
    rw [i.z, if_pos (show (some (0 : Int)).getD 0 = 0 from rfl)]
    have : (R.filter fun b => (al l (a, b)).isSome && ((al D b).isSome && !decide (a = a))) = [] := by
      rw [List.filter_eq_nil_iff]
      intro b _
      simp
    rw [this] <;> rfl
  · have e1 : (fun b => (al l (a, b)).isSome && ((al D b).isSome && !decide (a = d))) = fine1 l D a := by
      funext b
      rw [decide_eq_false had]
      show _ = ((al l (a, b)).isSome && (al D b).isSome)
      simp
    rw [e1]
    cases hx : al D a with
    | none =>
      rw [if_pos (show (none : Option Int).getD 0 = 0 from rfl)]
      have : R.filter (fine1 l D a) = [] := by
        rw [List.filter_eq_nil_iff]
        intro b _ hf
        obtain ⟨f1, f2⟩ := Bool.and_eq_true_iff.mp (show ((al l (a, b)).isSome && (al D b).isSome) = true from hf)
        obtain ⟨len, h1⟩ := Option.isSome_iff_exists.mp f1
        obtain ⟨y, h2⟩ := Option.isSome_iff_exists.mp f2
        obtain ⟨x, h3, _⟩ := st a b len y (al_mem h1) h2
        rw [hx] at h3
        cases h3
      rw [this] <;> rfl
    | some x =>
      have hx1 : 1 ≤ x := by
        rcases i.w a x hx with ⟨h1, _⟩ | ⟨b, len, y, h1, h2, h3⟩
        · exact absurd h1 had
        · have := lo.pos _ h1
          have := i.nn b y h2
          simp only at *
          omega
      have : ¬ (some x : Option Int).getD 0 = 0 := by
        show ¬ x = 0
        omega
      rw [if_neg this]
theorem nexts_congr {R : List Str} {l : Le} {D E : Di} (h : ∀ a, al D a = al E a) (a : Str) : nexts R l D a = nexts R l E a := by
  unfold nexts
  have e1 : fine1 l D a = fine1 l E a := by
    funext b
    unfold fine1
    rw [h]
  have e2 : fine2 l D a = fine2 l E a := by
    funext b
    unfold fine2
    rw [h, h]
  rw [h, e1, e2]
end Qt
/-! QLj: _law_far_from. -/
namespace Qt
open PySem PySem.Spec PyProof.Rows L2
section
variable {P : Program} {w : World} {K : PySem.W.Frag} {mg : Str → Option Value} {base : Heap}
abbrev sFarFrom : Stmt := top 65
theorem scFarFrom : FnScope ["_law_routers", "_law_lengths_here", "_law_d", "_law_found", "_law_is_done", "_law_a", "_law_b", "_law_far_here"] ["_law_routers", "_law_lengths_here", "_law_d"] (defScope sFarFrom) := ⟨rfl, rfl, rfl, by decide +kernel, rfl, by decide +kernel, by decide +kernel⟩
def spFarFrom : Sp := fun vs H Q _ => ∃ (v1 : V) (L : Addr) (d : Str) (R : List Str) (l : Le), vs = [v1, .ref L, .str d] ∧ DT H L (leD l) ∧ LeOk R l ∧ d ∈ R ∧ R.length ≤ 10 ∧ l.length ≤ 100 ∧ ∀ v H' E, Same H H' → Dk (diD E) v H' → DInv R l d E → Stab l E → Q v H'
structure FfI (R : List Str) (l : Le) (d : Str) (F : Addr) (H H1 : Hp) (D : Di) (i : Nat) (dn : Bool) (H' : Hp) (D' : Di) : Prop where
  x0 : SmX F H H'
  x1 : SmX F H1 H'
  k : DK H' F (diD D')
  inv : DInv R l d D'
  bnd : Bnd l D'
  tt : dn = true → D' = D ∧ ∀ p ∈ l.take i, ∀ y, al D p.1.2 = some y → ∃ x, al D p.1.1 = some x ∧ x ≤ p.2 + y
  ff : dn = false → meas R.length l D' < meas R.length l D
theorem cal_far_from (D : Std K mg "_law_far_from" sFarFrom) (T : Gc mg) : Cal P w K mg base "_law_far_from" ["_law_routers", "_law_lengths_here", "_law_d"] 1 spFarFrom := by
  refine D.cal scFarFrom (fun vs H Q E h => ?_) (fun _ _ _ _ _ _ us hl => match us, hl with | [_, _, _], _ => rfl) (fun f cdv A outer s H vs Q E hr h => ?_)
  · obtain ⟨v1, L, d, R, l, rfl, _⟩ := h
    rfl
  · obtain ⟨v1, L, d, R, l, rfl, hL, lo, hd, h10, l100, k⟩ := h
    have nd := scFarFrom.nd
    have hu := hu_of hr
    refine ⟨_, (pss_cons (ps_par (i := 3) (j := 4) rfl nd rfl rfl (by decide) rfl rfl (pa_cons (pe_disp (pps_cons (pv 2) pe_int pps_nil) (by rfl) (by rfl) (fun z => by cases z) (by decide)) (pa_cons pe_bl pa_nil)) (by rfl))
 (pss_cons (ps_while PassesOwn.never (pt_not (pt_val (pv 4))) (pss_cons (ps_set (i := 4) nd rfl (Or.inl rfl) pe_bl)
 (pss_one (ps_for PassesOwn.never rfl (k_piL (K := K) (pe_callTy (call_list_dT rfl) (by rfl) T.b.list (by decide +kernel) (pa_cons (pv 1) pa_nil))) (k_tgT (K := K) (n := 2) rfl (pgs_cons (pg_name (i := 5) nd rfl (Or.inl rfl)) (pgs_cons (pg_name (i := 6) nd rfl (Or.inl rfl)) pgs_nil)))
 (pss_cons (ps_set (i := 7) nd rfl (Or.inl rfl) (pe_op op_add (pe_dget hu (pv 1) (pe_tup (pa_cons (pv 5) (pa_cons (pv 6) pa_nil))) (fun _ _ => rfl)) (pe_dget2 hu (pv 3) (pv 6) pe_int ⟨rfl, rfl, rfl, rfl⟩)))
 (pss_one (ps_if (PW.pt (pw_and (pt_cmp (pc_din hu (pv 6) (pv 3))) (pw_and1 (PW.pt (pw_or (pt_cmp (pc_dnotin hu (pv 5) (pv 3))) (pw_or1 (pt_cmpR op_lt (pv 7) (pe_dget hu (pv 3) (pv 5) (fun _ _ => rfl)) (nomark _)))))))) (pss_one (ps_asg (pe_tup (pa_cons (pv 7) (pa_cons pe_bl pa_nil))) (k_tgT (K := K) (n := 2) rfl (pgs_cons (pg_sub (pv 3) (pv 5) (set_dict hu)) (pgs_cons (pg_name (i := 4) nd rfl (Or.inl rfl)) pgs_nil))))) pss_nil)))))))
 (pss_one (ps_ret (pv 3))))), ?_⟩
    refine fun F hF => ⟨.str d, rfl, upd_same, [(sk d, .int 0)], rfl, by show 1 ≤ 15; decide, ?_⟩
    have eF : upd (upd H F (.dK [])) F (.dK (mergeK [] [(sk d, V.int 0)])) = upd H F (.dK [(sk d, .int 0)]) := upd_upd
    rw [eF]
    have kF : DK (upd H F (.dK [(sk d, .int 0)])) F (diD [(d, 0)]) := ⟨_, upd_same, .cons (.int 0) .nil⟩
    have sF : Same H (upd H F (.dK [(sk d, .int 0)])) := same_new hF
    generalize upd H F (.dK [(sk d, .int 0)]) = H0 at kF sF
    refine ⟨.ref F, .bl false, rfl, ?_⟩
    refine nx_of ?_
    refine s_while (W := fun m σ' H' => ∃ D dn a5 a6 a7, σ' = [some v1, some (.ref L), some (.str d), some (.ref F), some (.bl dn), a5, a6, a7] ∧ SmX F H H' ∧ DK H' F (diD D) ∧ DInv R l d D ∧ Bnd l D ∧ (dn = true → Stab l D) ∧ m = 2 * meas R.length l D + (if dn = true then 0 else 1)) _
      ⟨[(d, 0)], false, _, _, _, rfl, .of sF, kF, .zero hd, bnd0 l d, (fun z => by cases z), rfl⟩ ?_
    rintro m σ' H' ⟨D, dn, a5, a6, a7, rfl, x0, dk, inv, bnd, st, rfl⟩
    refine ⟨!dn, et_not (et_test (ev_varD rfl (.bl dn))), fun e Ha sa => ?_, fun e Ha sa => ?_⟩
    · have edn : dn = false := by simpa using e
      subst edn
      refine s_set (P := Dd (.bool true)) ev_bl fun v4 Hb sb pb => ?_
      rw [rp_bl pb]
      refine nx_of ?_
      have x1 := x0.trans (.of (sa.trans sb))
      have dk1 := dk.sm (sa.trans sb)
      have nLF : L ≠ F := by
        obtain ⟨kvs, e1, _⟩ := hL
        exact ne_of_none e1 hF
      have nF : ∀ xs, H F ≠ some (.tup xs) := fun xs z => by rw [hF] at z; cases z
      have dtL : ∀ {H'}, SmX F H H' → DT H' L (leD l) := fun {H'} x => by
        obtain ⟨kvs, e1, e2⟩ := hL
        exact ⟨kvs, x _ _ nLF e1, e2.up (x.tk nF)⟩
      refine s_forLq (Pd := fun ds p => ds = l.map (fun p => prD p.1)) (fun Hx sx Q q => ?_) (fun ds H1 i σ'' H'' => ∃ D' dn a5 a6 a7, σ'' = [some v1, some (.ref L), some (.str d), some (.ref F), some (.bl dn), a5, a6, a7] ∧ FfI R l d F H H1 D i dn H'' D')
        (fun ds p H1 hp s1 => ⟨D, true, _, _, _, rfl, x1.trans (.of s1), .refl _, dk1.sm s1, inv, bnd, fun _ => ⟨rfl, fun p hp => by cases hp⟩, fun z => by cases z⟩) (fun ds H1 i σ'' H'' s1 ⟨D', dn, a5, a6, a7, _, I⟩ => I.x1.tk (dk_tup (dk1.sm s1))) (fun ds H1 p xs i σ'' H'' hp h1 s1 ⟨D', dn, a5, a6, a7, _, I⟩ => I.x1 p _ (fun z => ?_) h1) ?_ ?_
      · have ev := ev_listDT (te := tVar 1) (σ := [some v1, some (.ref L), some (.str d), some (.ref F), some (.bl true), a5, a6, a7]) (ev_var rfl (dtL (x1.trans (.of sx))).dt (stb_dt _)) (H := Hx)
        have el : ((leD l).map fun p => tupS p.1) = l.map (fun p => prD p.1) := by
          unfold leD aemb
          rw [List.map_map]
          exact List.map_congr_left fun p _ => rfl
        rw [el] at ev
        exact ev Hx (Same.refl _) Q fun v H2 s2 ⟨p, xs, e1, e2, e3⟩ => q v H2 s2 ⟨_, p, xs, rfl, e1, e2, e3⟩
      · obtain ⟨kvs, e1, _⟩ := dk1.sm s1
        rw [z, e1] at h1
        cases h1
      · rintro ds p0 H1 i d0 v σ'' H'' rfl s1 hdi ⟨D', dn, a5, a6, a7, rfl, I⟩ rv
        rw [List.getElem?_map] at hdi
        cases hk : l[i]? with
        | none => rw [hk] at hdi; cases hdi
        | some p =>
          rw [hk] at hdi
          cases hdi
          have hp := List.mem_of_getElem? hk
          refine g_two rv ?_
          obtain ⟨⟨a, b⟩, len⟩ := p
          have eget : al (leD l) [a, b] = some (.int len) := by rw [show al (leD l) [a, b] = _ from al_leD l (a, b), al_of_mem lo.nod hp] <;> rfl
          have dlen := (di_len I.inv).2
          refine s_set (P := Dd (.int (len + (al D' b).getD 0))) (ev_add (ev_dgetT (k := [a, b]) (ev_var rfl (dtL I.x0).dt (stb_dt _)) (ev_tup (ds := [.str a, .str b]) (ea_d (ev_varS rfl) (ea_d (ev_varS rfl) ea_nil)) (by simp)) eget) (ev_is (ev_dgetK2 (x := b) (ev_var rfl I.k.dk (stb_dk _)) (ev_varS rfl) ev_int) (by rw [al_diD, getD_int]))) fun v7 H2 s2 p2 => ?_
          rw [rp_int p2]
          refine nx_of ?_
          have k2 := I.k.sm s2
          -- whether it fires
          have cond : EvT (tAnd (tB (tDIn (tVar 6) (tVar 3))) (tOr (tB (tDNotIn (tVar 5) (tVar 3))) (tTest (tOp (rI0 fun i j => .bl (decide (i < j))) (tVar 7) (tDGet (tVar 3) (tVar 5)))))) [some v1, some (.ref L), some (.str d), some (.ref F), some (.bl dn), some (.str a), some (.str b), some (.int (len + (al D' b).getD 0))] H2 ((al D' b).isSome && ((!(al D' a).isSome) || decide (len + (al D' b).getD 0 < (al D' a).getD 0))) := by
            refine et_and (et_B (ev_is (ev_dinK (x := b) (ev_varS rfl) (ev_var rfl k2.dk (stb_dk _))) (by rw [al_diD, Option.isSome_map]))) fun _ => et_or (et_B (ev_is (ev_dnotK (x := a) (ev_varS rfl) (ev_var rfl k2.dk (stb_dk _))) (by rw [al_diD, Option.isSome_map]))) fun e => ?_
            cases ha : al D' a with
            | none => rw [ha] at e; cases e
            | some z => exact et_test (ev_lt (ev_varI rfl) (ev_dgetK (x := a) (ev_var rfl k2.dk (stb_dk _)) (ev_varS rfl) (by rw [al_diD, ha] <;> rfl)))
          refine s_if cond (fun e H3 s3 => ?_) (fun e H3 s3 => ?_)
          · obtain ⟨f1, f2⟩ := Bool.and_eq_true_iff.mp e
            obtain ⟨y, hy⟩ := Option.isSome_iff_exists.mp f1
            rw [hy] at f2
            have er : relax D' ((a, b), len) = aput D' a (len + y) ∧ ∀ z, al D' a = some z → len + y < z := by
              rcases relax_cases D' ((a, b), len) with ⟨_, k'⟩ | ⟨y', h1, h2, h3⟩
              · obtain ⟨x, h4, h5⟩ := k' y hy
                have h4' : al D' a = some x := h4
                rw [h4'] at f2
                have hlt : len + y < x := by simpa using f2
                have h5' : x ≤ len + y := h5
                omega
              · have h1' : al D' b = some y' := h1
                rw [hy] at h1'
                cases h1'
                exact ⟨h2, h3⟩
            obtain ⟨b', m'⟩ := fire lo I.inv I.bnd hp hy er.1 er.2
            rw [hy]
            refine ⟨.int (len + y), rfl, by show 2 ≤ sizeLine; decide, fun tt htt => ?_⟩
            have st2 := same_new (o := .tup [.int (len + y), .bl false]) htt
            refine ⟨tt, _, rfl, SqT.of upd_same, rfl, _, _, rfl, ?_⟩
            refine g_dputK (k := a) (d := .int (len + y)) (ev_varX rfl) (ev_varS rfl) (.int _) ((k2.sm s3).sm st2) (by unfold diD aemb; rw [List.length_map]; omega) fun H4 o s4 t4 => ?_
            refine ⟨_, [], rfl, rfl, ?_⟩
            rw [show aput (diD D') a (.int (len + y)) = diD (aput D' a (len + y)) from (diD_put D' a (len + y)).symm, ← er.1] at t4
            have ss := ((s2.trans s3).trans st2).trans s4
            refine (show ∃ D' dn a5 a6 a7, _ ∧ FfI R l d F H H1 D (i + 1) dn _ D' from ⟨relax D' ((a, b), len), false, _, _, _, rfl, (I.x0.trans (.of ss)).upd, (I.x1.trans (.of ss)).upd, t4, I.inv.relaxI lo hp, b', (fun z => by cases z), fun _ => ?_⟩)
            cases dn with
            | true => rw [(I.tt rfl).1] at m' ⊢; exact m'
            | false => exact Nat.lt_trans m' (I.ff rfl)
          · have ss := s2.trans s3
            refine (show ∃ D' dn a5 a6 a7, _ ∧ FfI R l d F H H1 D (i + 1) dn _ D' from ⟨D', dn, _, _, _, rfl, I.x0.trans (.of ss), I.x1.trans (.of ss), I.k.sm ss, I.inv, I.bnd, fun ed => ?_, I.ff⟩)
            obtain ⟨g1, g2⟩ := I.tt ed
            refine ⟨g1, fun q hq y hy => ?_⟩
            rw [take_succ hk] at hq
            rcases List.mem_append.mp hq with hq | hq
            · exact g2 q hq y hy
            · rw [List.mem_singleton.mp hq] at hy ⊢
              rw [g1] at e
              have hy' : al D b = some y := hy
              rw [hy'] at e
              cases ha : al D a with
              | none => rw [ha] at e; cases e
              | some z =>
                rw [ha] at e
                have hge : ¬ len + y < z := by simpa using e
                exact ⟨z, by first | exact ha | rfl, by show z ≤ len + y; omega⟩
      · rintro ds p0 H1 σ'' H'' rfl s1 ⟨D', dn, a5, a6, a7, rfl, I⟩
        rw [List.length_map] at I
        refine (show ∃ m', m' < _ ∧ ∃ D dn a5 a6 a7, _ ∧ SmX F H H'' ∧ DK H'' F (diD D) ∧ DInv R l d D ∧ Bnd l D ∧ (dn = true → Stab l D) ∧ m' = 2 * meas R.length l D + (if dn = true then 0 else 1) from ⟨_, ?_, D', dn, _, _, _, rfl, I.x0, I.k, I.inv, I.bnd, fun ed => ?_, rfl⟩)
        · cases dn with
          | true => rw [(I.tt rfl).1]; simp
          | false =>
            have := I.ff rfl
            simp
            omega
        · obtain ⟨g1, g2⟩ := I.tt ed
          rw [g1]
          intro a b len y h1 h2
          exact g2 ((a, b), len) (by rw [List.take_length]; exact h1) y h2
    · have edn : dn = true := by simpa using e
      refine nx_of ?_
      exact s_ret (ev_var rfl (dk.sm sa).dk (stb_dk _)) fun v H2 s2 p => k v H2 D ((x0.same (Same.refl _) hF).trans (sa.trans s2)) p inv (st edn)
end
end Qt
/-! QLk: _law_tables, _law_tables_of. -/
namespace Qt
open PySem PySem.Spec PyProof.Rows L2
theorem lnext_tbl {R : List Str} {l : Le} {d : Str} {E : Di} (lo : LeOk R l) (hd : d ∈ R) (i : DInv R l d E) (st : Stab l E) (a : Str) : lnext R l E d a = tblF R l a d := by
  rw [lnext_eq lo i st]
  exact (nexts_congr (passes_fix lo hd i st) a).symm
section
variable {P : Program} {w : World} {K : PySem.W.Frag} {mg : Str → Option Value} {base : Heap}
abbrev sLTables : Stmt := top 66
theorem scLTables : FnScope ["_law_routers", "_law_lengths_here", "_law_found", "_law_d", "_law_far_here", "_law_a", "_law_some", "_law_b"] ["_law_routers", "_law_lengths_here"] (defScope sLTables) := ⟨rfl, rfl, rfl, by decide +kernel, rfl, by decide +kernel, by decide +kernel⟩
def spLTables : Sp := fun vs H Q _ => ∃ (v1 : V) (L : Addr) (R : List Str) (l : Le), vs = [v1, .ref L] ∧ Rp H v1 (tupS R) ∧ R.length ≤ 10 ∧ DT H L (leD l) ∧ l.length ≤ 100 ∧ LeOk R l ∧ ∀ v H', Same H H' → Tb R (tblF R l) v H' → Q v H'
theorem cal_ltables (D : Std K mg "_law_tables" sLTables) (T : Gc mg) (C_law_far_from : Cal P w K mg base "_law_far_from" ["_law_routers", "_law_lengths_here", "_law_d"] 1 spFarFrom) :
    Cal P w K mg base "_law_tables" ["_law_routers", "_law_lengths_here"] 2 spLTables := by
  refine D.cal scLTables (fun vs H Q E h => ?_) (fun _ _ _ _ _ _ us hl => match us, hl with | [_, _], _ => rfl) (fun f cdv A outer s H vs Q E hr h => ?_)
  · obtain ⟨v1, L, R, l, rfl, _⟩ := h
    rfl
  · obtain ⟨v1, L, R, l, rfl, h1, h8, h2, hl, lo, k⟩ := h
    have nd := scLTables.nd
    have hu := hu_of hr
    refine ⟨_, (pss_cons (ps_set (i := 2) nd rfl (Or.inl rfl) pe_dnewT)
 (pss_cons (ps_for PassesOwn.never rfl (k_piT (K := K) (pv 0)) (pg_name (i := 3) nd rfl (Or.inr rfl))
 (pss_cons (ps_set (i := 4) nd rfl (Or.inr rfl) (pe_cal C_law_far_from (hr.mono (by decide)) (pa_cons (pv 0) (pa_cons (pv 1) (pa_cons (pv 3) pa_nil)))))
 (pss_one (ps_for PassesOwn.never rfl (k_piT (K := K) (pv 0)) (pg_name (i := 5) nd rfl (Or.inr rfl))
 (pss_cons (ps_setLc (i := 6) (own := [("_law_b", 7)]) rfl nd rfl rfl (sw_true rfl rfl rfl (by decide +kernel)) (k_piT (K := K) (pv 0)) (blkOk_by (by kernel_rfl)) (fun _ _ _ _ _ => (pg_name (i := 7) nd rfl (Or.inl rfl))) (fun _ _ _ _ _ => (pts_one (PW.pt (pw_and (pt_cmp (pc_din hu (pe_tup (pa_cons (pv 5) (pa_cons (pv 7) pa_nil))) (pv 1))) (pw_and (pt_cmp (pc_din hu (pv 7) (pv 4))) (pw_and1 (pt_cmpR op_ne (pv 5) (pv 3) (nomark _)))))))) (fun _ _ _ _ _ => (pv 7)))
 (pss_one (ps_dput hu (pv 2) (pe_tup (pa_cons (pv 5) (pa_cons (pv 3) pa_nil))) (pe_callTy (k_tup (K := K)) (by rfl) T.b.tuple (by decide +kernel) (pa_cons (pe_lc (own := [("_law_b", 7)]) rfl nd (k_piL (K := K) (pv 6)) (blkOk_by (by kernel_rfl)) (fun _ _ _ _ _ => (pg_name (i := 7) nd rfl (Or.inl rfl))) (fun _ _ _ _ _ => (pts_one (pt_cmpR op_eq (pe_op op_add (pe_dget hu (pv 1) (pe_tup (pa_cons (pv 5) (pa_cons (pv 7) pa_nil))) (fun _ _ => rfl)) (pe_dget hu (pv 4) (pv 7) (fun _ _ => rfl))) (pe_dget hu (pv 4) (pv 5) (fun _ _ => rfl)) (nomark _)))) (fun _ _ _ _ _ => (pv 7))) pa_nil)) rfl)))))))
 (pss_one (ps_ret (pv 2))))), ?_⟩
    refine fun F hF => ?_
    have sF : Same H (upd H F (.dT [])) := same_new hF
    have kF : DT (upd H F (.dT [])) F [] := ⟨_, upd_same, .nil⟩
    have nF : ∀ xs, H F ≠ some (.tup xs) := fun xs z => by rw [hF] at z; cases z
    have up : ∀ {H'}, SmX F H H' → Rp H' v1 (tupS R) ∧ DT H' L (leD l) := fun {H'} x => ⟨h1.up (x.tk nF), by
      obtain ⟨kvs, e1, e2⟩ := h2
      exact ⟨kvs, x L _ (ne_of_none e1 hF) e1, e2.up (x.tk nF)⟩⟩
    refine s_forT (ev_varD rfl (h1.sm sF)) (fun H1 i σ' H' => (∃ a b c d e, σ' = [some v1, some (.ref L), some (.ref F), a, b, c, d, e]) ∧ SmX F H H' ∧ LeI H1 F (tabL R (tblF R l) (R.take i)) H') (fun H1 s1 => ⟨⟨_, _, _, _, _, rfl⟩, (SmX.of sF).trans (.of s1), .refl _, kF.sm s1⟩) (fun H1 i σ' H' s1 q => q.2.2.tkF (kF.sm s1)) ?_ ?_
    · rintro H1 i d v σ' H' s1 hd ⟨⟨a, b, c, c2, c3, rfl⟩, x0, q⟩ rv
      rw [List.getElem?_map] at hd
      cases hk : R[i]? with
      | none => rw [hk] at hd; cases hd
      | some r0 =>
        rw [hk] at hd
        cases hd
        rw [rp_str rv]
        have hr0 := List.mem_of_getElem? hk
        have bl : (tabL R (tblF R l) (R.take i)).length ≤ 100 := by
          have h3 := tabL_len R (tblF R l) (R.take i)
          have h4 : (R.take i).length * R.length ≤ 10 * 10 := Nat.mul_le_mul (by rw [List.length_take]; omega) h8
          omega
        obtain ⟨u1, u2⟩ := up x0
        refine s_set (P := fun v H' => ∃ E, Dk (diD E) v H' ∧ DInv R l r0 E ∧ Stab l E) (ev_call (ea_d (ev_varD rfl u1) (ea_cons (ev_varX rfl) (stb_x _) (ea_d (ev_varS rfl) ea_nil))) ?_) fun v3 H2 s2 ⟨E0, p2, iE, sE⟩ => ?_
        · rintro vs H2 s2 ⟨v, r, rfl, p1, u, r2, rfl, rfl, w', r3, rfl, p3, rfl⟩ Q' q'
          rw [rp_str p3]
          exact ⟨v, L, r0, R, l, rfl, u2.sm s2, lo, hr0, h8, hl, fun v H3 E s3 d3 i3 t3 => q' v H3 s3 ⟨E, d3, i3, t3⟩⟩
        · refine nx_of ?_
          obtain ⟨u1', u2'⟩ := up (x0.trans (.of s2))
          generalize ht : tabL R (tblF R l) (R.take i) = t0 at q bl
          have k2 : DT H2 F t0 := q.k.sm s2
          refine s_forT (ev_varD rfl u1') (fun H3 j σ'' H'' => (∃ c d e, σ'' = [some v1, some (.ref L), some (.ref F), some (.str r0), some v3, c, d, e]) ∧ SmX F H H'' ∧ SmX F H1 H'' ∧ Dk (diD E0) v3 H'' ∧ LeI H3 F (tabC (R.take j) (tblF R l) r0 t0) H'')
            (fun H3 s3 => ⟨⟨_, _, _, rfl⟩, (x0.trans (.of s2)).trans (.of s3), (q.x.trans (.of s2)).trans (.of s3), stb_dk _ _ _ _ s3 p2, .refl _, k2.sm s3⟩) (fun H3 j σ'' H'' s3 q3 => q3.2.2.2.2.tkF (k2.sm s3)) ?_ ?_
          · rintro H3 j d v σ'' H'' s3 hd ⟨⟨c', c'', c3', rfl⟩, x3, x4, d3, q3⟩ rv'
            rw [List.getElem?_map] at hd
            cases hj : R[j]? with
            | none => rw [hj] at hd; cases hd
            | some y =>
              rw [hj] at hd
              cases hd
              rw [rp_str rv']
              obtain ⟨w1, w2⟩ := up x3
              have b3 := tabC_len (tblF R l) r0 (R.take j) t0
              have b4 : (R.take j).length ≤ 10 := by rw [List.length_take]; omega
              have et : tabC (R.take (j + 1)) (tblF R l) r0 t0 = aput (tabC (R.take j) (tblF R l) r0 t0) [y, r0] (tupS (tblF R l y r0)) := by
                unfold tabC
                rw [take_succ hj, List.foldl_append] <;> rfl
              -- some
              refine s_set (P := Ls ((R.filter fun b => (al l (y, b)).isSome && ((al E0 b).isSome && !decide (y = r0))).map PyData.str)) (ev_lcTS (fun b => (al l (y, b)).isSome && ((al E0 b).isSome && !decide (y = r0))) PyData.str (ev_varD rfl w1) (by omega) (fun _ => rfl) fun b hb H4 s4 => ⟨et_and (et_B (ev_is (ev_dinT (k := [y, b]) (ev_tup (ds := [.str y, .str b]) (ea_d (ev_varS rfl) (ea_d (ev_varS rfl) ea_nil)) (by simp)) (ev_var rfl (w2.sm s4).dt (stb_dt _))) (by rw [show al (leD l) [y, b] = _ from al_leD l (y, b), Option.isSome_map]))) fun _ => et_and (et_B (ev_is (ev_dinK (x := b) (ev_varS rfl) (ev_var rfl (stb_dk _ _ _ _ s4 d3) (stb_dk _))) (by rw [al_diD, Option.isSome_map]))) fun _ => et_test (ev_neS (ev_varS rfl) (ev_varS rfl)), fun _ => ev_varS rfl⟩) fun v6 H4 s4 p6 => ?_
              refine nx_of ?_
              have d4 := stb_dk _ _ _ _ s4 d3
              have w4 := w2.sm s4
              have etab : lnext R l E0 r0 y = tblF R l y r0 := lnext_tbl lo hr0 iE sE y
              refine s_dputT (k := [y, r0]) (d := tupS (tblF R l y r0)) (by
                rw [← etab]
                refine ev_tupL (ev_lcLS (xs := R.filter fun b => (al l (y, b)).isSome && ((al E0 b).isSome && !decide (y = r0))) (fine2 l E0 y) PyData.str (ev_var rfl p6 (stb_l _)) (Nat.le_trans (List.length_filter_le _ _) (by omega)) (fun _ => rfl) fun n hn H5 s5 => ⟨?_, fun _ => ev_varS rfl⟩)
                have hf := (List.mem_filter.mp hn).2
                obtain ⟨f1, f2⟩ := Bool.and_eq_true_iff.mp hf
                obtain ⟨f2, _⟩ := Bool.and_eq_true_iff.mp f2
                obtain ⟨wv, hw⟩ := Option.isSome_iff_exists.mp f1
                obtain ⟨yv, hy⟩ := Option.isSome_iff_exists.mp f2
                obtain ⟨dx, hdx, _⟩ := sE y n wv yv (al_mem hw) hy
                refine et_test (ev_is (ev_eqI (ev_add (i := wv) (j := yv) (ev_dgetT (k := [y, n]) (ev_var rfl (w4.sm s5).dt (stb_dt _)) (ev_tup (ds := [.str y, .str n]) (ea_d (ev_varS rfl) (ea_d (ev_varS rfl) ea_nil)) (by simp)) (by rw [show al (leD l) [y, n] = _ from al_leD l (y, n), hw]; rfl))
                  (ev_dgetK (x := n) (ev_var rfl (stb_dk _ _ _ _ s5 d4) (stb_dk _)) (ev_varS rfl) (by rw [al_diD, hy]; rfl))) (ev_dgetK (x := y) (d := .int dx) (ev_var rfl (stb_dk _ _ _ _ s5 d4) (stb_dk _)) (ev_varS rfl) (by rw [al_diD, hdx]; rfl))) ?_)
                unfold fine2
                rw [hw, hy, hdx] <;> rfl) (ev_varX rfl) (ev_tup (ds := [.str y, .str r0]) (ea_d (ev_varS rfl) (ea_d (ev_varS rfl) ea_nil)) (by simp)) (q3.k.sm s4) (by omega) fun H5 o s5 t5 => ?_
              have s45 := s4.trans s5
              refine (show (∃ c d e, _) ∧ SmX F H _ ∧ SmX F H1 _ ∧ Dk (diD E0) v3 _ ∧ LeI H3 F (tabC (R.take (j + 1)) (tblF R l) r0 t0) _ from ⟨⟨_, _, _, rfl⟩, (x3.trans (.of s45)).upd, (x4.trans (.of s45)).upd, ?_, (q3.x.trans (.of s45)).upd, by rw [et]; exact t5⟩)
              obtain ⟨a3, kvs3, e3, rd3, kv3⟩ := d3
              have nA : a3 ≠ F := fun z => by
                subst z
                obtain ⟨ks, f1, _⟩ := q3.k
                rcases rd3 with rd3 | ⟨_, rd3⟩
                · rw [f1] at rd3; cases rd3
                · rw [f1] at rd3; cases rd3
              refine ⟨a3, kvs3, e3, ?_, (kv3.sm s45).up (tk_upd fun xs z => ?_)⟩
              · rcases rd3 with rd3 | ⟨o3, rd3⟩
                · exact .inl (by rw [upd_ne nA]; exact s45 _ _ rd3)
                · exact .inr ⟨o3, by rw [upd_ne nA]; exact s45 _ _ rd3⟩
              · obtain ⟨ks, f1, _⟩ := q3.k
                rw [s45 _ _ f1] at z
                cases z
          · rintro H3 σ'' H'' s3 ⟨⟨c', c'', c3', rfl⟩, x3, x4, d3, q3⟩
            rw [List.length_map, List.take_length] at q3
            refine (show (∃ a b c d e, _ = [some v1, some (V.ref L), some (V.ref F), a, b, c, d, e]) ∧ SmX F H H'' ∧ LeI H1 F (tabL R (tblF R l) (R.take (i + 1))) H'' from ⟨⟨_, _, _, _, _, rfl⟩, x3, x4, ?_⟩)
            have et : tabL R (tblF R l) (R.take (i + 1)) = tabC R (tblF R l) r0 t0 := by
              unfold tabL at ht ⊢
              rw [take_succ hk, List.foldl_append, ht] <;> rfl
            rw [et]
            exact q3.k
    · rintro H1 σ' H' s1 ⟨⟨a, b, c, c2, c3, rfl⟩, x0, q⟩
      refine nx_of ?_
      rw [List.length_map, List.take_length] at q
      refine s_ret (ev_varX rfl) fun v H2 s2 p => ?_
      obtain rfl : v = .ref F := p
      exact k _ H2 ((x0.same (Same.refl _) hF).trans s2) ⟨F, _, rfl, tabR_ok _ h8 (fun _ _ _ _ _ hx => nexts_sub hx) (fun _ _ _ _ => Nat.le_trans (nexts_len _ _ _ _) h8), q.k.sm s2⟩
abbrev sLTablesOf : Stmt := top 67
theorem scLTablesOf : FnScope ["_law_world_here"] ["_law_world_here"] (defScope sLTablesOf) := ⟨rfl, rfl, rfl, by decide +kernel, rfl, by decide +kernel, by decide +kernel⟩
def spLTablesOf : Sp := fun vs H Q _ => ∃ (v : V) (R : List Str) (ls : List Lk), vs = [v] ∧ Rp H v (worldD R ls) ∧ WdOk R ls ∧ ∀ v H', Same H H' → Tb R (tblF R (lens ls)) v H' → Q v H'
theorem cal_ltables_of (D : Std K mg "_law_tables_of" sLTablesOf) (T : Gc mg) (C_law_tables : Cal P w K mg base "_law_tables" ["_law_routers", "_law_lengths_here"] 2 spLTables) (C_law_lengths : Cal P w K mg base "_law_lengths" ["_law_links"] 1 spLens) :
    Cal P w K mg base "_law_tables_of" ["_law_world_here"] 3 spLTablesOf := by
  refine D.cal scLTablesOf (fun vs H Q E h => ?_) (fun _ _ _ _ _ _ us hl => match us, hl with | [_], _ => rfl) (fun f cdv A outer s H vs Q E hr h => ?_)
  · obtain ⟨v, R, ls, rfl, _⟩ := h
    rfl
  · obtain ⟨v1, R, ls, rfl, h1, wd, k⟩ := h
    have nd := scLTablesOf.nd
    refine ⟨_, (pss_one (ps_ret (pe_cal C_law_tables (hr.mono (by decide)) (pa_cons (pe_ix (k_ixT (K := K)) (pv 0) pe_int (fun _ _ => rfl)) (pa_cons (pe_cal C_law_lengths (hr.mono (by decide)) (pa_cons (pe_ix (k_ixT (K := K)) (pv 0) pe_int (fun _ _ => rfl)) pa_nil)) pa_nil))))), ?_⟩
    have h16 := wd.l.few
    have hl : (lens ls).length ≤ 32 := by
      have h3 := lens_len ls []
      have h4 : ([] : Le).length = 0 := rfl
      show (ls.foldl lenS []).length ≤ 32
      omega
    refine s_ret (P := Tb R (tblF R (lens ls))) (ev_call (ea_d (ev_w0 (ev_varD rfl h1)) (ea_cons (P := DtR (leD (lens ls))) (ev_call (ea_d (ev_w1 (ev_varD rfl h1)) ea_nil) ?_) (stb_dtr _) ea_nil)) ?_) fun v H2 s2 p => k v H2 s2 p
    · rintro vs H2 s2 ⟨v, r, rfl, p1, rfl⟩ Q' q'
      exact ⟨v, ls, rfl, p1, h16, fun a H3 s3 t => q' _ H3 s3 ⟨a, rfl, t⟩⟩
    · rintro vs H2 s2 ⟨v, r, rfl, p1, u, r2, rfl, ⟨a, rfl, t⟩, rfl⟩ Q' q'
      exact ⟨v, a, R, lens ls, rfl, p1, Nat.le_trans wd.five (by decide), t, by omega, lens_ok wd.l.ok, q'⟩
end
end Qt
/-! QLl: _law_near, _law_pair. -/
namespace Qt
open PySem PySem.Spec PyProof.Rows L2
theorem k_unl {X : Cx} {K : PySem.W.Frag} {es : List Expr} {k : Nat} {t : TGs} {n : Nat} {pos : Pos} (hc : X.calm = true) (h : PGs X es t) (hn : (assignEach es X.env).length = n := by rfl) (hst : (assignEach es X.env).findIdx? (·.1) = none := by rfl) (hK : X.K = K := by rfl) :
    PG X (.Tuple es k pos) (gUnl K n t) := hK ▸ pg_unl hc h hn hst
theorem shaped_lks {ls : List Lk} (h : ∀ l ∈ ls, PyData.strOk l.1 = true ∧ PyData.strOk l.2.1 = true) : SeqAt.shaped (lksD ls) = true := by
  unfold SeqAt.shaped
  rw [Bool.and_eq_true]
  have h1 : ∀ ls : List Lk, (∀ l ∈ ls, PyData.strOk l.1 = true ∧ PyData.strOk l.2.1 = true) → PyData.canLayAll0 (ls.map lkD) = true := fun ls => by
    induction ls with
    | nil => exact fun _ => rfl
    | cons m l ih =>
      intro h
      have e1 := ih fun m hm => h m (List.mem_cons_of_mem _ hm)
      obtain ⟨e2, e3⟩ := h m List.mem_cons_self
      rw [List.map_cons]
      simp only [PyData.canLayAll0, lkD, PyData.canLay0, Bool.and_eq_true]
      exact ⟨⟨e2, e3, trivial, trivial, trivial⟩, e1⟩
  have h2 : ∀ ls : List Lk, PyData.depthAll (ls.map lkD) ≤ 1 := fun ls => by
    induction ls with
    | nil => exact Nat.zero_le _
    | cons m l ih =>
      rw [List.map_cons]
      simp only [PyData.depthAll, lkD, PyData.depth]
      omega
  have h3 : (lksD ls).depth ≤ 64 := by
    have := h2 ls
    simp only [PyData.depth]
    omega
  exact ⟨by simp only [PyData.canLay0]; exact h1 ls h, decide_eq_true h3⟩
section
variable {K : PySem.W.Frag} {p : Addr} {σ : L2.St} {H : Hp} {tr : TA} {tbd : TS} {g : TG} {m : Nat} {D : Ends}
theorem ev_val {v : V} {A : VP} (h : A v H) (st : Stb A) : Ev (fun _ H Q => Q v H) σ H A := fun H1 s Q q => q v H1 (Same.refl _) (st _ _ _ s h)
theorem em_sl2 {te : TE} {q : List PyData → Prop} (h : Em p te σ H m (fun v H' => ∃ ds, Ls ds v H' ∧ q ds)) : Em p (tSl (rSlL K) te tNoPart (tPart (tC (.int 2)))) σ H m (fun v H' => ∃ ds, Ls (ds.take 2) v H' ∧ q ds) := fun Q k => h _ fun v H1 s1 hp1 ⟨ds, hl, hq⟩ => by
  have e := ev_slL (K := K) (te := fun _ H Q => Q v H) (σ := σ) (ev_val hl (stb_l _)) eo_none (eo_some (ev_int (i := 2)))
  rw [cutD_hi _ (by decide)] at e
  exact e H1 (Same.refl _) Q fun u H2 s2 p2 => k u H2 (s1.trans (.of s2)) (hp1.sm s2) ⟨ds, p2, hq⟩
theorem em_ssS {te : TE} {q : List Str → Prop} (h : Em p te σ H m (fun v H' => ∃ xs : List Str, Ls (xs.map PyData.str) v H' ∧ q xs)) (hz : ∀ xs, q xs → xs.length < 63) : Em p (tSS K relS (fun _ => True) (PySem.W.dataLe false PyData.str) te) σ H m (fun v H' => ∃ ys : List Str, Ls (ys.map PyData.str) v H' ∧ ys.Pairwise Lt ∧ ∃ xs, q xs ∧ ∀ z, z ∈ ys ↔ z ∈ xs) := fun Q k => h _ fun v H1 s1 hp1 ⟨xs, hl, hq⟩ => by
  have e := ev_ssS (K := K) (te := fun _ H Q => Q v H) (σ := σ) (ev_val hl (stb_l _)) (hz xs hq)
  exact e H1 (Same.refl _) Q fun u H2 s2 ⟨ys, p2, h1, h2⟩ => k u H2 (s1.trans (.of s2)) (hp1.sm s2) ⟨ys, p2, h1, xs, hq, h2⟩
theorem s_asgM {te : TE} {P : VP} (h : Em p te σ H m P) (k : ∀ v H1, SmP p H H1 → Pot p m H1 → P v H1 → g v σ H1 D.nx) : tAsg te g D σ H := h _ k
theorem s_forRM {b : Nat} (h : EmA p tr σ H m [Nl b]) (hb : b ≤ 1000) (Pv : Nat → L2.St → Hp → Prop) (h0 : ∀ H1, SmP p H H1 → Pot p m H1 → Pv 0 σ H1)
    (turn : ∀ i σ' H', i + 1 < b → Pv i σ' H' → g (.int (i : Nat)) σ' H' fun σ2 H2 => tbd { D with nx := Pv (i + 1), ct := Pv (i + 1), bk := D.nx } σ2 H2)
    (done : ∀ i σ' H', i < b → Pv i σ' H' → D.nx σ' H') : tFor (iRng1 tr) g tbd D σ H := h _ fun vs H1 s1 hp1 ⟨v, r, e1, ⟨i0, e0, z0, z1⟩, e2⟩ => by
  subst e1 e2 e0
  obtain ⟨N, rfl⟩ : ∃ N : Nat, i0 = N := ⟨i0.toNat, by omega⟩
  refine ⟨N, rfl, by omega, by omega, for_it walk_range (fun i σ' H' => Pv i σ' H') (h0 H1 s1 hp1) (fun _ _ _ _ _ => True.intro) (fun i x σ' H2 H3 hi q y => ?_) (fun σ' H' q => done N σ' H' (by omega) (by simpa using q))⟩
  obtain ⟨rfl, rfl⟩ := y
  rw [Int.toNat_natCast] at hi
  show g (.int (0 + (i : Int))) σ' H3 _
  rw [Int.zero_add]
  exact turn i σ' H3 (by omega) q
end
section
variable {P : Program} {w : World} {K : PySem.W.Frag} {mg : Str → Option Value} {base : Heap}
abbrev sNear : Stmt := top 71
theorem scNear : FnScope ["_law_pot_here", "_law_world_here", "_law_found", "_law_turn", "_law_way", "_law_some", "_law_more", "_law_is_less", "_law_a", "_law_b", "_law_there", "_law_back"] ["_law_pot_here", "_law_world_here"] (defScope sNear) := ⟨rfl, rfl, rfl, by decide +kernel, rfl, by decide +kernel, by decide +kernel⟩
def spNear : Sp := fun vs H Q _ => ∃ (p : Addr) (v : V) (R : List Str) (ls : List Lk) (n : Nat), vs = [.ref p, v] ∧ Rp H v (worldD R ls) ∧ WdOk R ls ∧ Pot p n H ∧ n + 100 ≤ 10 ^ 15 ∧ ∀ v H' ls', SmP p H H' → Pot p (n + 100) H' → Rp H' v (worldD R ls') → WdOk R ls' → Q v H'
theorem cal_near (D : Std K mg "_law_near" sNear) (T : Gc mg) (C_law_take : Cal P w K mg base "_law_take" ["_law_pot_here", "_law_upto"] 1 spTake) (C_law_of : Cal P w K mg base "_law_of" ["_law_pot_here", "_law_some"] 2 spOf) (C_law_turned : Cal P w K mg base "_law_turned" ["_law_pot_here", "_law_some"] 2 spTurned) (C_law_far : Cal P w K mg base "_law_far" ["_law_pot_here"] 3 spFar) (C_law_shifted : Cal P w K mg base "_law_shifted" ["_law_world_here", "_law_a", "_law_b", "_law_t"] 2 spShifted) (C_law_with : Cal P w K mg base "_law_with" ["_law_world_here", "_law_a", "_law_b", "_law_there", "_law_back"] 1 spWith) (C_law_without : Cal P w K mg base "_law_without" ["_law_world_here", "_law_a", "_law_b"] 1 spWithout) : Cal P w K mg base "_law_near" ["_law_pot_here", "_law_world_here"] 4 spNear := by
  refine D.cal scNear (fun vs H Q E h => ?_) (fun _ _ _ _ _ _ us hl => match us, hl with | [_, _], _ => rfl) (fun f cdv A outer s H vs Q E hr h => ?_)
  · obtain ⟨p, v, R, ls, n, rfl, _⟩ := h
    rfl
  · obtain ⟨p, v, R, ls, n, rfl, h1, wd, hp, hn, k⟩ := h
    have nd := scNear.nd
    refine ⟨_, (pss_cons (ps_set (i := 2) nd rfl (Or.inl rfl) (pv 1))
 (pss_cons (ps_for PassesOwn.never rfl (pi_range1 (by rfl) T.b.range (pa_cons (pe_op op_add pe_int (pe_cal C_law_take (hr.mono (by decide)) (pa_cons (pv 0) (pa_cons pe_int pa_nil)))) pa_nil)) (pg_name (i := 3) nd rfl (Or.inl rfl))
 (pss_cons (ps_par (i := 4) (j := 5) rfl nd rfl rfl (by decide) rfl rfl (pa_cons (pe_cal C_law_take (hr.mono (by decide)) (pa_cons (pv 0) (pa_cons pe_int pa_nil))) (pa_cons (pe_ix (k_ixT (K := K)) (pv 2) pe_int (fun _ _ => rfl)) pa_nil)) (by rfl))
 (pss_one (ps_if (PW.pt (pw_and (pt_cmpR op_lt (pv 4) pe_int (nomark _)) (pw_and1 (pt_cmpR (k_neD (K := K) hr.units) (pv 5) (pe_tup pa_nil) (nomark _))))) (pss_cons (ps_asg (pe_cal C_law_of (hr.mono (by decide)) (pa_cons (pv 0) (pa_cons (pv 5) pa_nil))) (k_tgT (K := K) (n := 4) rfl (pgs_cons (pg_name (i := 8) nd rfl (Or.inl rfl)) (pgs_cons (pg_name (i := 9) nd rfl (Or.inl rfl)) (pgs_cons (pg_name (i := 10) nd rfl (Or.inl rfl)) (pgs_cons (pg_name (i := 11) nd rfl (Or.inl rfl)) pgs_nil))))))
 (pss_cons (ps_set (i := 6) nd rfl (Or.inl rfl) (pe_cal C_law_of (hr.mono (by decide)) (pa_cons (pv 0) (pa_cons (pe_lst (pa_cons pe_int (pa_cons pe_int (pa_cons pe_int (pa_cons pe_int (pa_cons pe_int (pa_cons pe_int pa_nil))))))) pa_nil))))
 (pss_cons (ps_set (i := 7) nd rfl (Or.inl rfl) (pe_and (pe_cmpR op_eq (pv 4) pe_int (nomark _)) (pe_one (pe_cmpR op_gt (pe_callB (call_min2 rfl) (by rfl) T.b.min (by decide +kernel) (pa_cons (pe_callTy call_int1 (by rfl) T.b.int (by decide +kernel) (pa_cons (pv 10) pa_nil)) (pa_cons (pe_callTy call_int1 (by rfl) T.b.int (by decide +kernel) (pa_cons (pv 11) pa_nil)) pa_nil))) (pv 6) (nomark _)))))
 (pss_one (ps_set (i := 2) nd rfl (Or.inl rfl) (pe_cal C_law_shifted (hr.mono (by decide)) (pa_cons (pv 2) (pa_cons (pv 8) (pa_cons (pv 9) (pa_cons (pe_ifExp (pt_val (pv 7)) (pe_un un_neg (pv 6)) (pv 6)) pa_nil)))))))))) (pss_one (ps_if (PW.pt (pw_and (pt_cmpR op_eq (pv 4) pe_int (nomark _)) (pw_and1 (pt_cmpR op_gt (pe_callB (k_len (K := K)) (by rfl) T.b.len (by decide +kernel) (pa_cons (pv 5) pa_nil)) pe_int (nomark _))))) (pss_cons (ps_asg (pe_slice (k_slT (K := K)) (pe_cal C_law_of (hr.mono (by decide)) (pa_cons (pv 0) (pa_cons (pv 5) pa_nil))) po_none (po_some pe_int)) (k_tgT (K := K) (n := 2) rfl (pgs_cons (pg_name (i := 8) nd rfl (Or.inl rfl)) (pgs_cons (pg_name (i := 9) nd rfl (Or.inl rfl)) pgs_nil))))
 (pss_one (ps_set (i := 2) nd rfl (Or.inl rfl) (pe_cal C_law_without (hr.mono (by decide)) (pa_cons (pv 2) (pa_cons (pv 8) (pa_cons (pv 9) pa_nil))))))) (pss_one (ps_if (pt_cmpR op_lt (pe_callB (k_len (K := K)) (by rfl) T.b.len (by decide +kernel) (pa_cons (pv 5) pa_nil)) pe_int (nomark _)) (pss_cons (ps_asg (pe_ssS (K := K) rfl hr.units (by rfl) T.b.sorted (by rfl) T.b.set (pe_slice (k_slL (K := K)) (pe_cal C_law_turned (hr.mono (by decide)) (pa_cons (pv 0) (pa_cons (pe_callTy (k_lst (K := K)) (by rfl) T.b.list (by decide +kernel) (pa_cons (pe_ix (k_ixT (K := K)) (pv 2) pe_int (fun _ _ => rfl)) pa_nil)) pa_nil))) po_none (po_some pe_int))) (k_unl (K := K) (n := 2) rfl (pgs_cons (pg_name (i := 8) nd rfl (Or.inl rfl)) (pgs_cons (pg_name (i := 9) nd rfl (Or.inl rfl)) pgs_nil))))
 (pss_one (ps_set (i := 2) nd rfl (Or.inl rfl) (pe_cal C_law_with (hr.mono (by decide)) (pa_cons (pv 2) (pa_cons (pv 8) (pa_cons (pv 9) (pa_cons (pe_cal C_law_far (hr.mono (by decide)) (pa_cons (pv 0) pa_nil)) (pa_cons (pe_cal C_law_far (hr.mono (by decide)) (pa_cons (pv 0) pa_nil)) pa_nil))))))))) pss_nil))))))))
 (pss_one (ps_ret (pv 2))))), ?_⟩
    have sok : ∀ x ∈ R, PyData.strOk x = true := fun x hx => (wd.r.nm x hx).ok
    refine s_set (P := Dd (worldD R ls)) (ev_varD rfl h1) fun v2 H0 s0 p2 => ?_
    refine nx_of ?_
    have hp0 := hp.sm s0
    refine s_forRM (p := p) (m := n + 1) (b := 5) (ema_cons (P := Nl 5) (em_add (a := 2) (b := 3) (em_ev (ev_nlc (i := 1) (by decide) (by decide)) hp0) fun H1 s1 hp1 => em_take rfl (ev_int (i := 3)) (by decide) (by decide) hp1 (by omega)) (stp_nl _ _) fun H1 s1 hp1 => ema_nil hp1) (by decide) (fun i σ' H' => ∃ v2 ls' a3 a4 a5 a6 a7 a8 a9 a10 a11, σ' = [some (.ref p), some v, some v2, a3, a4, a5, a6, a7, a8, a9, a10, a11] ∧ SmP p H H' ∧ Pot p (n + 1 + 20 * i) H' ∧ Rp H' v2 (worldD R ls') ∧ WdOk R ls')
      (fun H1 s1 hp1 => ⟨v2, ls, _, _, _, _, _, _, _, _, _, rfl, (SmP.of s0).trans s1, hp1, p2.up s1.t, wd⟩) ?_ ?_
    · rintro i σ' H' hi ⟨v2, ls', a3, a4, a5, a6, a7, a8, a9, a10, a11, rfl, s1, hp1, p2, wd'⟩
      refine s_parM (p := p) (m := n + 1 + 20 * i + 1) (A := Nl 5) (B := Dd (lksD ls')) (ema_cons (em_take rfl (ev_int (i := 5)) (by decide) (by decide) hp1 (by omega)) (stp_nl _ _) fun H2 s2 hp2 => ema_cons (em_ev (ev_w1 (ev_varD rfl (p2.up s2.t))) hp2) (stp_d _ _) fun H3 s3 hp3 => ema_nil hp3) fun v4 v5 H2 s2 hp2 ⟨way, e4, w0, w1⟩ p5 => ?_
      subst e4
      refine nx_of ?_
      have p2' := p2.up s2.t
      have lsok : ∀ l ∈ ls', PyData.strOk l.1 = true ∧ PyData.strOk l.2.1 = true := fun l hl => ⟨sok _ (wd'.l.ok l hl).a, sok _ (wd'.l.ok l hl).b⟩
      have l16 := wd'.l.few
      refine s_if (b := decide (way < 3) && !decide (ls' = [])) (et_and (et_test (ev_lt (ev_varI rfl) ev_int)) fun _ => et_test (ev_is (ev_neD (ev_varD rfl p5) (stb_d _) (ev_tup (ds := []) ea_nil (by simp)) (fun _ _ p => Rp.dp _ _ p) (fun _ _ p => Rp.dp _ _ p) (shaped_lks lsok) (by rfl)) (by cases ls' <;> rfl))) (fun e H3 s3 => ?_) (fun e H3 s3 => ?_)
      · have hp3 := hp2.sm s3
        have p23 := p2'.sm s3
        have hne : ls' ≠ [] := fun z => by
          rw [z] at e
          simp at e
        have eo : Em p (tCall spOf [] E0 (tCons (tVar 0) (tCons (tVar 5) tNil))) [some (.ref p), some v, some v2, a3, some (.int way), some v5, a6, a7, a8, a9, a10, a11] H3 (n + 1 + 20 * i + 1 + 1) (fun v H' => ∃ d, d ∈ ls'.map lkD ∧ Rp H' v d) := em_of (A := Dd (lksD ls')) (ema_ev (ea_x (ev_varX rfl) (ea_d (ev_varD rfl (p5.sm s3)) ea_nil)) hp3) (fun v H1 _ h => .inr h) (fun z => hne (List.map_eq_nil_iff.mp z)) (by rw [List.length_map]; omega) (by omega)
        refine s_asgM eo fun v6 H6 s6 hp6 ⟨d, hd, r6⟩ => ?_
        obtain ⟨l, hl, rfl⟩ := List.mem_map.mp hd
        obtain ⟨t, xs, rfl, hT, rx⟩ := rp_tup (ds := [.str l.1, .str l.2.1, .int l.2.2.1, .int l.2.2.2]) r6
        cases rx with | cons r1 rx => cases rx with | cons r2 rx => cases rx with | cons r3 rx => cases rx with | cons r4 rx =>
        cases rx
        rw [rp_str r1, rp_str r2, rp_int r3, rp_int r4] at hT
        refine ⟨t, _, rfl, SqT.of hT, rfl, _, _, rfl, _, _, rfl, _, _, rfl, _, _, rfl, rfl, ?_⟩
        refine nx_of ?_
        have p26 := p23.up s6.t
        -- more
        refine s_setM (p := p) (m := n + 1 + 20 * i + 3) (P := G1) ((em_of (p := p) (n := n + 1 + 20 * i + 2) (A := LsP p ([1, 2, 3, 5, 9, 30].map PyData.int)) (ema_cons (em_ev (ev_varX rfl) hp6) (stp_x _ _) fun H7 s7 hp7 => ema_cons (em_lst (ema_ev (ea_d ev_int (ea_d ev_int (ea_d ev_int (ea_d ev_int (ea_d ev_int (ea_d ev_int ea_nil)))))) hp7) (by simp)) (stp_lsP _ _) fun H8 s8 hp8 => ema_nil hp8) (fun v H1 _ h => .inl h) (by simp) (by simp) (by omega)).imp fun v H7 _ _ ⟨d, hd, rd⟩ => ?_) fun v7 H7 s7 hp7 ⟨mo, e7, hmo⟩ => ?_
        · simp only [List.map_cons, List.map_nil, List.mem_cons, List.not_mem_nil, or_false] at hd
          have : ∃ i : Int, d = .int i ∧ 1 ≤ i := by rcases hd with rfl | rfl | rfl | rfl | rfl | rfl <;> exact ⟨_, rfl, by decide⟩
          obtain ⟨i, rfl, h0⟩ := this
          exact ⟨i, rp_int rd, h0⟩
        subst e7
        refine nx_of ?_
        refine s_set (P := Dd (.bool (decide (way = 2) && decide (mo < (if l.2.2.2 < l.2.2.1 then l.2.2.2 else l.2.2.1))))) (ev_and (ev_eqI (ev_varI rfl) ev_int) fun _ => ev_gt (ev_min2 (ev_int1 (ev_varI rfl)) (ev_int1 (ev_varI rfl))) (ev_varI rfl)) fun v8 H8 s8 p8 => ?_
        rw [rp_bl p8]
        refine nx_of ?_
        have lk := wd'.l.ok l hl
        have p28 := (p26.up s7.t).sm s8
        have hth := lk.there
        have hbk := lk.back
        generalize hb : (decide (way = 2) && decide (mo < (if l.2.2.2 < l.2.2.1 then l.2.2.2 else l.2.2.1))) = bb
        refine s_set (P := fun v H' => ∃ ls'', Rp H' v (worldD R ls'') ∧ WdOk R ls'') (ev_call (Ps := [Dd (worldD R ls'), Ex (.str l.1), Ex (.str l.2.1), Dd (.int (if bb = true then -mo else mo))]) (ea_d (ev_varD rfl p28) (ea_x (ev_varX rfl) (ea_x (ev_varX rfl) (ea_d (ev_if (b := bb) (et_B (ev_varD rfl (.bl bb))) (fun e => ?_) (fun e => ?_)) ea_nil)))) ?_) fun v12 H12 s12 ⟨ls'', p12, w12⟩ => ?_
        · rw [if_pos e]
          exact ev_neg (ev_varI rfl)
        · rw [if_neg (by rw [e]; decide)]
          exact ev_varI rfl
        · rintro vs H9 s9 ⟨v, r, rfl, p1, u, r2, rfl, p2, u3, r3, rfl, p3, u4, r4, rfl, p4, rfl⟩ Q q
          obtain rfl : u = .str l.1 := p2
          obtain rfl : u3 = .str l.2.1 := p3
          refine ⟨v, R, ls', _, _, _, l, by rw [rp_int p4], p1, wd', hl, rfl, ?_, ?_, fun v H8 ls8 s8 p8 w8 => q v H8 s8 ⟨ls8, p8, w8⟩⟩
          · cases bb with
            | false => show 1 ≤ l.2.2.1 + mo; omega
            | true =>
              obtain ⟨_, h2⟩ := Bool.and_eq_true_iff.mp hb
              have h2 := of_decide_eq_true h2
              show 1 ≤ l.2.2.1 + -mo
              split at h2 <;> omega
          · cases bb with
            | false => show 1 ≤ l.2.2.2 + mo; omega
            | true =>
              obtain ⟨_, h2⟩ := Bool.and_eq_true_iff.mp hb
              have h2 := of_decide_eq_true h2
              show 1 ≤ l.2.2.2 + -mo
              split at h2 <;> omega
        · exact (show ∃ v2 ls' a3 a4 a5 a6 a7 a8 a9 a10 a11, _ ∧ SmP p H _ ∧ Pot p (n + 1 + 20 * (i + 1)) _ ∧ Rp _ v2 (worldD R ls') ∧ WdOk R ls' from ⟨v12, ls'', _, _, _, _, _, _, _, _, _, rfl, ((((s1.trans s2).trans (.of s3)).trans s6).trans s7).trans (.of (s8.trans s12)), ((hp7.sm s8).sm s12).mono (by omega), p12, w12⟩)
      · refine s_if (b := decide (way = 3) && decide (1 < ((ls'.map lkD).length : Int))) (et_and (et_test (ev_eqI (ev_varI rfl) ev_int)) fun _ => et_test (ev_gt (ev_lenT (ev_varD rfl (p5.sm s3))) ev_int)) (fun e H4 s4 => ?_) (fun e H4 s4 => ?_)
        · have ss := s3.trans s4
          have hp4 := hp2.sm ss
          have p24 := p2'.sm ss
          have hne : ls' ≠ [] := fun z => by
            rw [z] at e
            simp at e
          have eo : Em p (tCall spOf [] E0 (tCons (tVar 0) (tCons (tVar 5) tNil))) [some (.ref p), some v, some v2, a3, some (.int way), some v5, a6, a7, a8, a9, a10, a11] H4 (n + 1 + 20 * i + 1 + 1) (fun v H' => ∃ d, d ∈ ls'.map lkD ∧ Rp H' v d) := em_of (A := Dd (lksD ls')) (ema_ev (ea_x (ev_varX rfl) (ea_d (ev_varD rfl (p5.sm ss)) ea_nil)) hp4) (fun v H1 _ h => .inr h) (fun z => hne (List.map_eq_nil_iff.mp z)) (by rw [List.length_map]; omega) (by omega)
          refine s_asgM (p := p) (m := n + 1 + 20 * i + 2) (P := fun v H' => ∃ l ∈ ls', Rp H' v (prD (prL l))) (fun Q q => eo _ fun v6 H6 s6 hp6 ⟨d, hd, r6⟩ => ?_) fun v6 H6 s6 hp6 ⟨l, hl, r6⟩ => ?_
          · obtain ⟨l, hl, rfl⟩ := List.mem_map.mp hd
            have e := ev_cut2 (K := K) (te := fun _ H Q => Q v6 H) (σ := [some (.ref p), some v, some v2, a3, some (.int way), some v5, a6, a7, a8, a9, a10, a11]) (ev_val (A := Dd (lkD l)) r6 (stb_d _))
            exact e H6 (Same.refl _) Q fun u H7 s7 p7 => q u H7 (s6.trans (.of s7)) (hp6.sm s7) ⟨l, hl, p7⟩
          · refine g_two r6 ?_
            refine nx_of ?_
            have p26 := p24.up s6.t
            refine s_set (P := fun v H' => ∃ ls'', Rp H' v (worldD R ls'') ∧ WdOk R ls'') (ev_call (ea_d (ev_varD rfl p26) (ea_x (ev_varX rfl) (ea_x (ev_varX rfl) ea_nil))) ?_) fun v12 H12 s12 ⟨ls'', p12, w12⟩ => ?_
            · rintro vs H7 s7 ⟨v, r, rfl, p1, u, r2, rfl, p2, u3, r3, rfl, p3, rfl⟩ Q q
              obtain rfl : u = .str (prL l).1 := p2
              obtain rfl : u3 = .str (prL l).2 := p3
              exact ⟨v, R, ls', _, _, rfl, p1, wd', (wd'.l.ok l hl).a, (wd'.l.ok l hl).b, fun v H8 ls8 s8 p8 w8 => q v H8 s8 ⟨ls8, p8, w8⟩⟩
            · exact (show ∃ v2 ls' a3 a4 a5 a6 a7 a8 a9 a10 a11, _ ∧ SmP p H _ ∧ Pot p (n + 1 + 20 * (i + 1)) _ ∧ Rp _ v2 (worldD R ls') ∧ WdOk R ls' from ⟨v12, ls'', _, _, _, _, _, _, _, _, _, rfl, (((s1.trans s2).trans (.of ss)).trans s6).trans (.of s12), (hp6.sm s12).mono (by omega), p12, w12⟩)
        · refine s_if (b := decide (((ls'.map lkD).length : Int) < 16)) (et_test (ev_lt (ev_lenT (ev_varD rfl ((p5.sm s3).sm s4))) ev_int)) (fun e H5 s5 => ?_) (fun e H5 s5 => ?_)
          · have hlen : ls'.length < 16 := by
              have := of_decide_eq_true e
              rw [List.length_map] at this
              omega
            have ss := (s3.trans s4).trans s5
            have hp5 := hp2.sm ss
            have p25 := p2'.sm ss
            have two := wd'.r.two
            have hR5 := wd'.five
            -- a, b = sorted(set(turned(..)[:2]))
            have et : Em p (tCall spTurned [] E0 (tCons (tVar 0) (tCons (tCB (rLstO K) (tCons (tOp (rIxT K) (tVar 2) (tC (.int 0))) tNil)) tNil))) [some (.ref p), some v, some v2, a3, some (.int way), some v5, a6, a7, a8, a9, a10, a11] H5 (n + 1 + 20 * i + 3) (fun v H' => ∃ ds, Ls ds v H' ∧ ∃ od : List Str, ds = od.map PyData.str ∧ od.Perm R) := em_call (p := p) (n := n + 1 + 20 * i + 1) (m := n + 1 + 20 * i + 3) (Ps := [Ex (.ref p), LsP p (R.map PyData.str)]) (ema_ev (ea_x (ev_varX rfl) (ea_cons (P := LsP p (R.map PyData.str)) ((ev_listT (ev_w0 (ev_varD rfl p25))).imp fun v6 Hx sx h => ⟨h, pot_ls_str (hp5.sm sx) h (fun e => by rw [e] at two; exact absurd two (by decide))⟩) (stb_lsP _ _) ea_nil)) hp5) (by
              rintro vs H6 s6 hp6 ⟨v, r, rfl, p1, u, r2, rfl, p2, rfl⟩ Q q
              obtain rfl : v = .ref p := p1
              refine ⟨p, u, n + 1 + 20 * i + 1, _, rfl, hp6, by omega, p2, fun z => ?_, by rw [List.length_map]; omega, fun v H2 ds' s2 hp2 l2 pm => ?_⟩
              · rw [List.map_eq_nil_iff] at z
                rw [z] at two
                exact absurd two (by decide)
              · obtain ⟨od, rfl, po⟩ := perm_inv PyData.str unS (fun _ => rfl) pm
                exact q v H2 s2 (hp2.mono (by omega)) ⟨_, l2.1, od, rfl, po⟩)
            refine s_asgM (em_ssS (q := fun xs => xs.length = 2 ∧ xs.Nodup ∧ ∀ x ∈ xs, x ∈ R) ((em_sl2 et).imp fun v6 H6 s6 hp6 ⟨ds, l6, od, e6, pm⟩ => ⟨od.take 2, by rw [List.map_take, ← e6]; exact l6, ?_, ?_, fun x hx => pm.mem_iff.mp (List.mem_of_mem_take hx)⟩) (fun xs h => by omega)) fun v6 H6 s6 hp6 ⟨ys, l6, asc, xs, ⟨x1, x2, x3⟩, hm⟩ => ?_
            · rw [List.length_take, pm.length_eq]
              omega
            · have Rnd : R.Nodup := List.Pairwise.imp (R := Lt) (S := fun a b => a ≠ b) (fun {a b} h (z : a = b) => lt_irrefl b (z ▸ h)) wd'.r.asc
              exact (pm.nodup_iff.mpr Rnd).sublist (List.take_sublist _ _)
            · have ynd : ys.Nodup := List.Pairwise.imp (R := Lt) (S := fun a b => a ≠ b) (fun {a b} h (z : a = b) => lt_irrefl b (z ▸ h)) asc
              have yl : ys.length = 2 := by
                have h1 := nodup_le ynd fun x hx => (hm x).mp hx
                have h2 := nodup_le x2 fun x hx => (hm x).mpr hx
                omega
              obtain ⟨a, b, rfl⟩ : ∃ a b, ys = [a, b] := by
                match ys, yl with
                | [a, b], _ => exact ⟨a, b, rfl⟩
              have hab : Lt a b := (List.pairwise_cons.mp asc).1 b (List.mem_singleton.mpr rfl)
              have haR : a ∈ R := x3 a ((hm a).mp List.mem_cons_self)
              have hbR : b ∈ R := x3 b ((hm b).mp (List.mem_cons_of_mem _ (List.mem_singleton.mpr rfl)))
              obtain ⟨c, xs6, rfl, h6, r6⟩ := l6
              rw [rp_tupS_all.mp r6] at h6
              refine ⟨c, _, rfl, SqL.of h6, rfl, _, _, rfl, _, [], rfl, rfl, ?_⟩
              refine nx_of ?_
              have p26 := p25.up s6.t
              have far : ∀ {Hx : Hp} {σ : L2.St} {c : Nat}, σ[0]? = some (some (.ref p)) → Pot p c Hx → c + 3 ≤ 10 ^ 15 → Em p (tCall spFar [] E0 (tCons (tVar 0) tNil)) σ Hx (c + 3) G1 := fun {Hx σ c} e hp hc => em_call (ema_ev (ea_x (ev_varX e) ea_nil) hp) fun vs H7 s7 hp7 ⟨v, r, e1, p1, e2⟩ Q k => by
                subst e1 e2
                obtain rfl : v = .ref p := p1
                exact ⟨p, c, rfl, hp7, hc, fun i H8 hi s8 hp8 => k _ H8 s8 hp8 ⟨i, rfl, hi⟩⟩
              refine s_setM (p := p) (m := n + 1 + 20 * i + 9) (P := fun v H' => ∃ ls'', Rp H' v (worldD R ls'') ∧ WdOk R ls'') (em_call (n := n + 1 + 20 * i + 9) (Ps := [Dd (worldD R ls'), Ex (.str a), Ex (.str b), G1, G1]) (ema_cons (em_ev (ev_varD rfl p26) hp6) (stp_d _ _) fun H7 s7 hp7 => ema_cons (em_ev (ev_varX rfl) hp7) (stp_x _ _) fun H8 s8 hp8 => ema_cons (em_ev (ev_varX rfl) hp8) (stp_x _ _) fun H9 s9 hp9 => ema_cons (far rfl hp9 (by omega)) (fun _ _ _ _ h => h) fun H10 s10 hp10 => ema_cons (far rfl hp10 (by omega)) (fun _ _ _ _ h => h) fun H11 s11 hp11 => ema_nil (hp11.mono (by omega))) ?_) fun v12 H12 s12 hp12 ⟨ls'', p12, w12⟩ => ?_
              · rintro vs H7 s7 hp7 ⟨v, r, rfl, p1, u, r2, rfl, p2, u3, r3, rfl, p3, u4, r4, rfl, ⟨t, rfl, ht⟩, u5, r5, rfl, ⟨k5, rfl, hk5⟩, rfl⟩ Q q
                obtain rfl : u = .str a := p2
                obtain rfl : u3 = .str b := p3
                exact ⟨v, R, ls', a, b, t, k5, rfl, p1, wd', haR, hbR, hab, ht, hk5, .inl hlen, fun v H8 ls8 s8 p8 w8 => q v H8 (.of s8) (hp7.sm s8) ⟨ls8, p8, w8⟩⟩
              · exact (show ∃ v2 ls' a3 a4 a5 a6 a7 a8 a9 a10 a11, _ ∧ SmP p H _ ∧ Pot p (n + 1 + 20 * (i + 1)) _ ∧ Rp _ v2 (worldD R ls') ∧ WdOk R ls' from ⟨v12, ls'', _, _, _, _, _, _, _, _, _, rfl, (((s1.trans s2).trans (.of ss)).trans s6).trans s12, hp12.mono (by omega), p12, w12⟩)
          · have ss := (s3.trans s4).trans s5
            exact (show ∃ v2 ls' a3 a4 a5 a6 a7 a8 a9 a10 a11, _ ∧ SmP p H _ ∧ Pot p (n + 1 + 20 * (i + 1)) _ ∧ Rp _ v2 (worldD R ls') ∧ WdOk R ls' from ⟨v2, ls', _, _, _, _, _, _, _, _, _, rfl, (s1.trans s2).trans (.of ss), (hp2.sm ss).mono (by omega), p2'.sm ss, wd'⟩)
    · rintro i σ' H' hi ⟨v2, ls', a3, a4, a5, a6, a7, a8, a9, a10, a11, rfl, s1, hp1, p2, wd'⟩
      refine nx_of ?_
      exact s_ret (ev_varD rfl p2) fun v3 H3 s3 p3 => k v3 H3 ls' (s1.trans (.of s3)) ((hp1.sm s3).mono (by omega)) p3 wd'
end
end Qt
/-! QLm: _law_pots, _law_pair. -/
namespace Qt
open PySem PySem.Spec PyProof.Rows L2
/-- a list of pots -/
def PotsP (H0 : Hp) (m n : Nat) : VP := fun v H => ∃ (a : Addr) (ps : List Addr), v = .ref a ∧ H a = some (.lst (ps.map V.ref)) ∧ (∀ p ∈ ps, Pot p n H) ∧ ps.length ≤ m ∧ ∀ p ∈ ps, H0 p = none
theorem refs_ne_pot {ps : List Addr} {p D : Addr} {n : Nat} {H : Hp} (h : H D = some (.lst (ps.map V.ref))) (hp : Pot p n H) : D ≠ p := fun z => by
  subst z
  obtain ⟨o, s, c, e, _⟩ := hp
  rw [h] at e
  cases ps <;> simp at e
section
variable {P : Program} {w : World} {K : PySem.W.Frag} {mg : Str → Option Value} {base : Heap}
abbrev sPots : Stmt := top 56
theorem scPots : FnScope ["_law_script", "_law_most", "_law_k"] ["_law_script", "_law_most"] (defScope sPots) := ⟨rfl, rfl, rfl, by decide +kernel, rfl, by decide +kernel, by decide +kernel⟩
def spPots (K : PySem.W.Frag) : Sp := fun vs H Q _ => ∃ (v1 : V) (cs : List Int), vs = [v1, .int 3] ∧ ScrP K cs v1 H ∧ ∀ v H', Same H H' → PotsP H 3 0 v H' → Q v H'
theorem cal_pots (D : Std K mg "_law_pots" sPots) (T : Gc mg) (C_law_pot : Cal P w K mg base "_law_pot" ["_law_script", "_law_k"] 1 (spPot K)) : Cal P w K mg base "_law_pots" ["_law_script", "_law_most"] 2 (spPots K) := by
  refine D.cal scPots (fun vs H Q E h => ?_) (fun _ _ _ _ _ _ us hl => match us, hl with | [_, _], _ => rfl) (fun f cdv A outer s H vs Q E hr h => ?_)
  · obtain ⟨v1, cs, rfl, _⟩ := h
    rfl
  · obtain ⟨v1, cs, rfl, hl, k⟩ := h
    have nd := scPots.nd
    refine ⟨_, (pss_one (ps_ret (pe_lc (own := [("_law_k", 2)]) rfl nd (pi_range1 (by rfl) T.b.range (pa_cons (pe_callB (call_max2 rfl) (by rfl) T.b.max (by decide +kernel) (pa_cons pe_int (pa_cons (pe_callB (call_min2 rfl) (by rfl) T.b.min (by decide +kernel) (pa_cons (pe_callTy call_int1 (by rfl) T.b.int (by decide +kernel) (pa_cons (pv 1) pa_nil)) (pa_cons (pe_callB (k_len (K := K)) (by rfl) T.b.len (by decide +kernel) (pa_cons (pv 0) pa_nil)) pa_nil))) pa_nil))) pa_nil)) (blkOk_by (by kernel_rfl)) (fun _ _ _ _ _ => (pg_name (i := 2) nd rfl (Or.inl rfl))) (fun _ _ _ _ _ => pts_nil) (fun _ _ _ _ _ => (pe_cal C_law_pot (hr.mono (by decide)) (pa_cons (pv 0) (pa_cons (pv 2) pa_nil))))))), ?_⟩
    refine s_ret (P := PotsP H 3 0) ?_ k
    have e := ev_max2 (ev_int (i := 1)) (ev_min2 (ev_int1 (ev_varI (σ := L2.start ["_law_script", "_law_most", "_law_k"] [v1, .int 3]) (H := H) (i := 1) (x := 3) rfl)) (ev_lenScr (K := K) (ev_var (i := 0) rfl hl (stb_scr _ _))))
    generalize hz : (if (if (cs.length : Int) < 3 then (cs.length : Int) else 3) > 1 then (if (cs.length : Int) < 3 then (cs.length : Int) else 3) else 1) = z at e
    have hz3 : 0 ≤ z ∧ z ≤ 3 := by
      rw [← hz]
      constructor <;> (repeat' split) <;> omega
    obtain ⟨N, rfl⟩ : ∃ N : Nat, z = N := ⟨z.toNat, by omega⟩
    refine fun H0 s0 Q q => ?_
    unfold tLc iRng1
    refine (ea_d e ea_nil) H0 s0 _ fun us H1 s1 ⟨v, r, e1, p0, e2⟩ => ?_
    subst e1 e2
    refine ⟨N, by rw [rp_int p0], by omega, by omega, fun D hD => ?_⟩
    rw [Int.toNat_natCast]
    refine lc_range (fun i H' => H1 D = none ∧ Same H1 H' ∧ ∃ ps : List Addr, H' D = some (.lst (ps.map V.ref)) ∧ ps.length = i ∧ (∀ p ∈ ps, Pot p 0 H') ∧ ∀ p ∈ ps, H p = none) ⟨hD, same_new hD, [], upd_same, rfl, (fun _ h => by cases h), fun _ h => by cases h⟩ (fun i H' hi p => ⟨rfl, ?_⟩) (fun H' p => ?_)
    · obtain ⟨p1, p2, ps, p3, p4, p5, p6⟩ := p
      rw [Int.zero_add]
      have ec : Ev (tCall (spPot K) [] E0 (tCons (tVar 0) (tCons (tVar 2) tNil))) ((wipe (L2.start ["_law_script", "_law_most", "_law_k"] [v1, .int 3]) [2]).set 2 (some (.int i))) H' (fun v H2 => ∃ p, v = .ref p ∧ H' p = none ∧ Pot p 0 H2) := ev_call (Ps := [ScrP K cs, Dd (.int i)]) (ea_cons (ev_var rfl (stb_scr _ _ _ _ _ ((s0.trans s1).trans p2) hl) (stb_scr _ _)) (stb_scr _ _) (ea_d (ev_varI rfl) ea_nil)) fun vs H2 s2 ⟨v, r, e1, q1, u, r2, e2, q2, e3⟩ Q q => by
        subst e1 e2 e3
        exact ⟨v, i, cs, by rw [rp_int q2], q1, by omega, by omega, fun p H3 s3 n3 hp3 => q _ H3 s3 ⟨p, rfl, none_of s2 n3, hp3⟩⟩
      refine ec H' (Same.refl _) _ fun y H4 s4 ⟨p, ey, np, hp⟩ => ?_
      subst ey
      have e4 := s4 _ _ p3
      refine ⟨_, e4, ?_, p1, same_mut (p2.trans s4) p1, ps ++ [p], ?_, ?_, fun q hq => ?_, fun q hq => ?_⟩
      · rw [List.length_map, p4]
        exact Nat.lt_of_lt_of_le (show i < 1000 by omega) (by decide)
      · rw [List.map_append]
        exact upd_same
      · rw [List.length_append, List.length_singleton, p4]
      · rcases List.mem_append.mp hq with hq | hq
        · exact ((p5 q hq).sm s4).updL (refs_ne_pot e4 ((p5 q hq).sm s4))
        · rw [List.mem_singleton.mp hq]
          exact hp.updL fun z => by rw [z, np] at p3; cases p3
      · rcases List.mem_append.mp hq with hq | hq
        · exact p6 q hq
        · rw [List.mem_singleton.mp hq]
          exact none_of ((s0.trans s1).trans p2) np
    · obtain ⟨p1, p2, ps, p3, p4, p5, p6⟩ := p
      exact q _ H' (s1.trans p2) ⟨D, ps, rfl, p3, p5, by omega, p6⟩
/-! a pair of worlds -/
def PairP (R : List Str) (ls ls' : List Lk) : VP := fun v H => ∃ a xs, v = .ref a ∧ H a = some (.tup xs) ∧ AllP [Dd (tupS R), Dd (worldD R ls), Dd (worldD R ls'), Tb R (tblF R (lens ls)), Tb R (tblF R (lens ls'))] xs H
abbrev sPair : Stmt := top 72
theorem scPair : FnScope ["_law_pot_here", "_law_least", "_law_most", "_law_more", "_law_world_here", "_law_other"] ["_law_pot_here", "_law_least", "_law_most", "_law_more"] (defScope sPair) := ⟨rfl, rfl, rfl, by decide +kernel, rfl, by decide +kernel, by decide +kernel⟩
def spPair : Sp := fun vs H Q _ => ∃ (p : Addr) (n : Nat), vs = [.ref p, .int 2, .int 5, .int 4] ∧ Pot p n H ∧ n + 300 ≤ 10 ^ 15 ∧ ∀ v H' R ls ls', SmP p H H' → Pot p (n + 300) H' → WdOk R ls → WdOk R ls' → PairP R ls ls' v H' → Q v H'
theorem cal_pair (D : Std K mg "_law_pair" sPair) (T : Gc mg) (C_law_world : Cal P w K mg base "_law_world" ["_law_pot_here", "_law_least", "_law_most", "_law_more"] 4 spWorld) (C_law_near : Cal P w K mg base "_law_near" ["_law_pot_here", "_law_world_here"] 4 spNear) (C_law_tables_of : Cal P w K mg base "_law_tables_of" ["_law_world_here"] 3 spLTablesOf) : Cal P w K mg base "_law_pair" ["_law_pot_here", "_law_least", "_law_most", "_law_more"] 5 spPair := by
  refine D.cal scPair (fun vs H Q E h => ?_) (fun _ _ _ _ _ _ us hl => match us, hl with | [_, _, _, _], _ => rfl) (fun f cdv A outer s H vs Q E hr h => ?_)
  · obtain ⟨p, n, rfl, _⟩ := h
    rfl
  · obtain ⟨p, n, rfl, hp, hn, k⟩ := h
    have nd := scPair.nd
    refine ⟨_, (pss_cons (ps_set (i := 4) nd rfl (Or.inl rfl) (pe_cal C_law_world (hr.mono (by decide)) (pa_cons (pv 0) (pa_cons (pv 1) (pa_cons (pv 2) (pa_cons (pv 3) pa_nil))))))
 (pss_cons (ps_set (i := 5) nd rfl (Or.inl rfl) (pe_cal C_law_near (hr.mono (by decide)) (pa_cons (pv 0) (pa_cons (pv 4) pa_nil))))
 (pss_one (ps_ret (pe_tup (pa_cons (pe_ix (k_ixT (K := K)) (pv 4) pe_int (fun _ _ => rfl)) (pa_cons (pv 4) (pa_cons (pv 5) (pa_cons (pe_cal C_law_tables_of (hr.mono (by decide)) (pa_cons (pv 4) pa_nil)) (pa_cons (pe_cal C_law_tables_of (hr.mono (by decide)) (pa_cons (pv 5) pa_nil)) pa_nil)))))))))), ?_⟩
    refine s_setM (p := p) (m := n + 200) (P := fun v H' => ∃ R ls, Rp H' v (worldD R ls) ∧ WdOk R ls) (em_call (Ps := [Ex (.ref p), Ex (.int 2), Ex (.int 5), Ex (.int 4)]) (ema_ev (ea_x (ev_varX rfl) (ea_x (ev_varX rfl) (ea_x (ev_varX rfl) (ea_x (ev_varX rfl) ea_nil)))) hp) ?_) fun v4 H1 s1 hp1 ⟨R, ls, r4, w4⟩ => ?_
    · rintro vs H1 s1 hp1 ⟨v, r, rfl, rfl, u, r2, rfl, rfl, u3, r3, rfl, rfl, u4, r4, rfl, rfl, rfl⟩ Q q
      exact ⟨p, n, rfl, hp1, by omega, fun v H2 R ls s2 hp2 r2 w2 => q v H2 s2 hp2 ⟨R, ls, r2, w2⟩⟩
    refine nx_of ?_
    refine s_setM (p := p) (m := n + 300) (P := fun v H' => ∃ ls', Rp H' v (worldD R ls') ∧ WdOk R ls') (em_call (n := n + 200) (Ps := [Ex (.ref p), Dd (worldD R ls)]) (ema_ev (ea_x (ev_varX rfl) (ea_d (ev_varD rfl r4) ea_nil)) hp1) ?_) fun v5 H2 s2 hp2 ⟨ls', r5, w5⟩ => ?_
    · rintro vs H2 s2 hp2 ⟨v, r, rfl, rfl, u, r2, rfl, p2, rfl⟩ Q q
      exact ⟨p, u, R, ls, n + 200, rfl, p2, w4, hp2, by omega, fun v H3 ls' s3 hp3 r3 w3 => q v H3 s3 hp3 ⟨ls', r3, w3⟩⟩
    refine nx_of ?_
    have r4' := r4.up s2.t
    have tb : ∀ {i : Nat} {v : V} {l : List Lk} {σ : L2.St}, σ[i]? = some (some v) → Rp H2 v (worldD R l) → WdOk R l → Ev (tCall spLTablesOf [] E0 (tCons (tVar i) tNil)) σ H2 (Tb R (tblF R (lens l))) := fun {i v l σ} e r wd => ev_call (Ps := [Dd (worldD R l)]) (ea_d (ev_varD e r) ea_nil) fun vs H3 s3 ⟨v, r, e1, p1, e2⟩ Q q => by
      subst e1 e2
      exact ⟨v, R, l, rfl, p1, wd, q⟩
    refine s_ret (P := PairP R ls ls') (ev_tupP (Ps := [Dd (tupS R), Dd (worldD R ls), Dd (worldD R ls'), Tb R (tblF R (lens ls)), Tb R (tblF R (lens ls'))]) (ea_d (ev_w0 (ev_varD rfl r4')) (ea_d (ev_varD rfl r4') (ea_d (ev_varD rfl r5) (ea_cons (tb rfl r4' w4) (stb_tb _ _) (ea_cons (tb rfl r5 w5) (stb_tb _ _) ea_nil))))) (by simp) (fun Pp hP => ?_)) fun v H3 s3 p3 => k v H3 R ls ls' ((s1.trans s2).trans (.of s3)) (hp2.sm s3) w4 w5 p3
    simp only [List.mem_cons, List.not_mem_nil, or_false] at hP
    rcases hP with rfl | rfl | rfl | rfl | rfl
    · exact stb_d _
    · exact stb_d _
    · exact stb_d _
    · exact stb_tb _ _
    · exact stb_tb _ _
end
end Qt
/-! Qmc: the play, plain. -/
namespace Qt
open PySem PySem.Spec PyProof.Rows L2
section
variable {R : List Str} {t o : Str → Str → List Str}
/-- the moment behind some rounds -/
def momAt (R : List Str) (ch : List (List Str)) : List Str := ch.foldl (fun M s => tog R M s) []
theorem momAt_snoc (R : List Str) (ch : List (List Str)) (s : List Str) : momAt R (ch ++ [s]) = tog R (momAt R ch) s := by
  unfold momAt
  rw [List.foldl_append] <;> rfl
theorem foldl_togR : ∀ (ch : List (List Str)) (M : List Str), (∀ x ∈ M, x ∈ R) → ∀ x ∈ ch.foldl (fun M s => tog R M s) M, x ∈ R
  | [], M, h, x, hx => h x hx
  | s :: ch, M, h, x, hx => foldl_togR ch (tog R M s) (fun y hy => (List.mem_filter.mp hy).1) x hx
theorem momAt_sub {ch : List (List Str)} : ∀ x ∈ momAt R ch, x ∈ R := foldl_togR ch [] fun x hx => by cases hx
theorem chn_at {ch : List (List Str)} {M : List Str} (h : Chn R t o ch M) : M = momAt R ch ∧ ∀ i s, ch[i]? = some s → Good R t o (momAt R (ch.take i)) s := by
  induction h with
  | nil => exact ⟨rfl, fun i s h => by simp at h⟩
  | @snoc ch M s c g ih =>
    obtain ⟨e, ih⟩ := ih
    refine ⟨by rw [momAt_snoc, ← e], fun i s' h => ?_⟩
    by_cases hi : i < ch.length
    · rw [List.getElem?_append_left hi] at h
      rw [List.take_append_of_le_length (Nat.le_of_lt hi)]
      exact ih i s' h
    · rw [List.getElem?_append_right (by omega)] at h
      cases hz : i - ch.length with
      | succ k => rw [hz] at h; simp at h
      | zero =>
        rw [hz] at h
        have ei : i = ch.length := by omega
        subst ei
        rw [List.take_left' rfl, ← e]
        simp at h
        rw [← h]
        exact g
/-- who has learnt within a round -/
structure Btw (R M s Ln : List Str) : Prop where
  inR : ∀ x ∈ Ln, x ∈ R
  lo : ∀ x ∈ M, x ∈ Ln
  hi : ∀ x ∈ Ln, x ∈ M ∨ x ∈ s
theorem Btw.now {M s Ln : List Str} (b : Btw R M s Ln) {x : Str} (d : Str) (hx : x ∈ R) : mixF t o Ln x d = mixF t o M x d ∨ mixF t o Ln x d = mixF t o (tog R M s) x d := by
  unfold mixF
  by_cases h : x ∈ Ln
  · right
    have h1 : x ∈ tog R M s := List.mem_filter.mpr ⟨hx, by
      rcases b.hi x h with z | z
      · simp [z]
      · simp [z]⟩
    rw [if_pos h, if_pos h1]
  · left
    rw [if_neg h, if_neg fun z => h (b.lo x z)]
theorem Btw.add {M s Ln : List Str} (b : Btw R M s Ln) (hs : ∀ x ∈ s, x ∈ R) {ys : List Str} (hy : ∀ y ∈ ys, y ∈ s) : Btw R M s (Ln ++ ys) where
  inR := fun x hx => by
    rcases List.mem_append.mp hx with h | h
    · exact b.inR x h
    · exact hs x (hy x h)
  lo := fun x hx => List.mem_append_left _ (b.lo x hx)
  hi := fun x hx => by
    rcases List.mem_append.mp hx with h | h
    · exact b.hi x h
    · exact .inr (hy x h)
theorem Btw.start {M s Ln : List Str} (hM : ∀ x ∈ M, x ∈ R) (h : ∀ x, x ∈ Ln ↔ x ∈ M) : Btw R M s Ln := ⟨fun x hx => hM x ((h x).mp hx), fun x hx => (h x).mpr hx, fun x hx => .inl ((h x).mp hx)⟩
theorem Btw.fin {M s Ln : List Str} (b : Btw R M s Ln) (hs : ∀ x ∈ s, x ∈ R) : ∀ x, x ∈ Ln ++ s ↔ x ∈ tog R M s := fun x => by
  unfold tog
  rw [List.mem_filter, List.mem_append]
  constructor
  · rintro (h | h)
    · refine ⟨b.inR x h, ?_⟩
      rcases b.hi x h with z | z <;> simp [z]
    · exact ⟨hs x h, by simp [h]⟩
  · rintro ⟨h1, h2⟩
    have h2 : x ∈ M ∨ x ∈ s := by simpa using h2
    rcases h2 with z | z
    · exact .inl (b.lo x z)
    · exact .inr z
end
/-! ### the way of a packet -/
inductive Trk (R : List Str) (f g : Str → Str → List Str) (d : Str) : List Str → Prop
  | one {a : Str} : a ∈ R → a ≠ d → Trk R f g d [a]
  | snoc {vs : List Str} {x y : Str} : Trk R f g d vs → vs.getLast? = some x → x ≠ d → y ∈ R → (y ∈ f x d ∨ y ∈ g x d) → Trk R f g d (vs ++ [y])
section
variable {R : List Str} {f g : Str → Str → List Str} {d : Str} {vs : List Str}
theorem Trk.info (h : Trk R f g d vs) (rk : Ranked R (lkF R f g d)) : (∀ y ∈ vs, y ∈ R) ∧ vs.Nodup := by
  obtain ⟨r, hr⟩ := rk
  have : ∃ x i, vs.getLast? = some x ∧ x ∈ R ∧ al r x = some i ∧ (∀ y ∈ vs, y ∈ R) ∧ vs.Nodup ∧ ∀ y ∈ vs, ∃ j, al r y = some j ∧ i ≤ j := by
    induction h with
    | @one a ha hd =>
      obtain ⟨i, hi, _⟩ := hr a ha
      exact ⟨a, i, rfl, ha, hi, fun y hy => by rw [List.mem_singleton.mp hy]; exact ha, by simp, fun y hy => ⟨i, by rw [List.mem_singleton.mp hy]; exact hi, Int.le_refl _⟩⟩
    | @snoc vs x y h1 h2 h3 h4 h5 ih =>
      obtain ⟨x', i, e1, e2, e3, e4, e5, e6⟩ := ih
      rw [h2] at e1
      cases e1
      obtain ⟨i', hi', hn⟩ := hr x e2
      rw [e3] at hi'
      cases hi'
      have hy : y ∈ lkF R f g d x := by
        unfold lkF
        rw [if_neg h3, List.mem_filter]
        refine ⟨h4, decide_eq_true ?_⟩
        rw [List.mem_append]
        exact h5
      obtain ⟨j, hj, hji⟩ := hn y hy
      refine ⟨y, j, List.getLast?_concat, h4, hj, fun z hz => ?_, ?_, fun z hz => ?_⟩
      · rcases List.mem_append.mp hz with hz | hz
        · exact e4 z hz
        · rw [List.mem_singleton.mp hz]; exact h4
      · refine List.nodup_append.mpr ⟨e5, by simp, fun z hz w hw e => ?_⟩
        rw [List.mem_singleton] at hw
        subst hw
        subst e
        obtain ⟨k, hk, hk2⟩ := e6 z hz
        rw [hj] at hk
        cases hk
        omega
      · rcases List.mem_append.mp hz with hz | hz
        · obtain ⟨k, hk, hk2⟩ := e6 z hz
          exact ⟨k, hk, by omega⟩
        · rw [List.mem_singleton.mp hz]
          exact ⟨j, hj, Int.le_refl _⟩
  obtain ⟨_, _, _, _, _, h1, h2, _⟩ := this
  exact ⟨h1, h2⟩
theorem Trk.ne (h : Trk R f g d vs) : vs ≠ [] := by
  cases h with
  | one => simp
  | snoc => simp
theorem Trk.last (h : Trk R f g d vs) : ∃ x, vs.getLast? = some x ∧ x ∈ R := by
  cases h with
  | @one a ha _ => exact ⟨a, rfl, ha⟩
  | @snoc vs x y h1 h2 h3 h4 h5 => exact ⟨y, List.getLast?_concat, h4⟩
theorem Trk.len (h : Trk R f g d vs) (rk : Ranked R (lkF R f g d)) : vs.length ≤ R.length := by
  obtain ⟨h1, h2⟩ := h.info rk
  exact nodup_leG h2 h1
theorem Trk.next (h : Trk R f g d vs) (nl : NoLoss R f g d) (h2 : 2 ≤ vs.length) {x : Str} (hx : vs.getLast? = some x) (hd : x ≠ d) : f x d ≠ [] ∧ g x d ≠ [] := by
  cases h with
  | one => simp at h2
  | @snoc ws w y g1 g2 g3 g4 g5 =>
    rw [List.getLast?_concat] at hx
    cases hx
    obtain ⟨w', e, hw⟩ := g1.last
    rw [g2] at e
    cases e
    obtain ⟨n1, n2, n3, n4⟩ := nl
    rcases g5 with g5 | g5
    · exact ⟨n1 w hw g3 _ g5 hd, n2 w hw g3 _ g5 hd⟩
    · exact ⟨n3 w hw g3 _ g5 hd, n4 w hw g3 _ g5 hd⟩
end
/-- within a round: what the play leans on -/
structure Rnd (R : List Str) (t o : Str → Str → List Str) (M s : List Str) : Prop where
  sub : ∀ x ∈ s, x ∈ R
  ne : s ≠ []
  tR : ∀ x d, ∀ y ∈ t x d, y ∈ R
  oR : ∀ x d, ∀ y ∈ o x d, y ∈ R
  snd : Snd R t o M s
  r5 : R.length ≤ 5
  s5 : s.length ≤ 5
  ok : ∀ x ∈ R, PyData.strOk x = true
/-- a packet's way in a round -/
def Way (R : List Str) (t o : Str → Str → List Str) (M s : List Str) (q : Str × List Str) : Prop := q.1 ∈ R ∧ Trk R (mixF t o M) (mixF t o (tog R M s)) q.1 q.2
section
variable {R M s Ln : List Str} {t o : Str → Str → List Str} {q : Str × List Str} {x : Str}
theorem Rnd.mixR (r : Rnd R t o M s) (N : List Str) (a d : Str) : ∀ y ∈ mixF t o N a d, y ∈ R := fun y hy => by
  unfold mixF at hy
  split at hy
  · exact r.oR _ _ y hy
  · exact r.tR _ _ y hy
/-- a hop goes where the packet was not -/
theorem Way.hop (w : Way R t o M s q) (r : Rnd R t o M s) (b : Btw R M s Ln) (hx : q.2.getLast? = some x) (hd : x ≠ q.1) {y : Str} (hy : y ∈ mixF t o Ln x q.1) : Way R t o M s (q.1, q.2 ++ [y]) ∧ y ∉ q.2 := by
  obtain ⟨h1, h2⟩ := w
  obtain ⟨x', e, xR⟩ := h2.last
  rw [hx] at e
  cases e
  have yR := r.mixR Ln x q.1 y hy
  have hor : y ∈ mixF t o M x q.1 ∨ y ∈ mixF t o (tog R M s) x q.1 := by
    rcases b.now (t := t) (o := o) q.1 xR with e | e
    · rw [e] at hy; exact .inl hy
    · rw [e] at hy; exact .inr hy
  have T := Trk.snoc h2 hx hd yR hor
  refine ⟨⟨h1, T⟩, fun z => ?_⟩
  obtain ⟨_, nd⟩ := T.info (r.snd.1 q.1 h1)
  have := (List.nodup_append.mp nd).2.2 y z y (List.mem_singleton.mpr rfl)
  exact this rfl
/-- one that was sent on stands nowhere without a next router -/
theorem Way.goes (w : Way R t o M s q) (r : Rnd R t o M s) (b : Btw R M s Ln) (h2 : 2 ≤ q.2.length) (hx : q.2.getLast? = some x) (hd : x ≠ q.1) : mixF t o Ln x q.1 ≠ [] := by
  obtain ⟨h1, h3⟩ := w
  obtain ⟨x', e, xR⟩ := h3.last
  rw [hx] at e
  cases e
  obtain ⟨n1, n2⟩ := h3.next (r.snd.2 q.1 h1) h2 hx hd
  rcases b.now (t := t) (o := o) q.1 xR with e | e
  · rw [e]; exact n1
  · rw [e]; exact n2
theorem Way.len (w : Way R t o M s q) (r : Rnd R t o M s) : q.2.length ≤ R.length := w.2.len (r.snd.1 q.1 w.1)
theorem Way.last (w : Way R t o M s q) : ∃ x, q.2.getLast? = some x ∧ x ∈ R := w.2.last
theorem Way.all (w : Way R t o M s q) (r : Rnd R t o M s) : ∀ x ∈ q.2, x ∈ R := (w.2.info (r.snd.1 q.1 w.1)).1
end
end Qt
/-! QLn: the state of a play. -/
namespace Qt
open PySem PySem.Spec PyProof.Rows L2
def stK (vr vt vo : V) (L B : Addr) : List (Key × V) := [(sk "routers", vr), (sk "tables", vt), (sk "others", vo), (sk "learnt", .ref L), (sk "packets", .ref B)]
theorem stK_r (vr vt vo : V) (L B : Addr) : valV (stK vr vt vo L B) (sk "routers") = some vr := by rfl
theorem stK_t (vr vt vo : V) (L B : Addr) : valV (stK vr vt vo L B) (sk "tables") = some vt := by rfl
theorem stK_o (vr vt vo : V) (L B : Addr) : valV (stK vr vt vo L B) (sk "others") = some vo := by rfl
theorem stK_l (vr vt vo : V) (L B : Addr) : valV (stK vr vt vo L B) (sk "learnt") = some (.ref L) := by rfl
theorem stK_p (vr vt vo : V) (L B : Addr) : valV (stK vr vt vo L B) (sk "packets") = some (.ref B) := by rfl
theorem stK_put (vr vt vo : V) (L B B' : Addr) : putK (stK vr vt vo L B) (sk "packets") (.ref B') = stK vr vt vo L B' := by rfl
abbrev Qs := List (Addr × Str × List Str)
structure SC where
  R : List Str
  t : Str → Str → List Str
  o : Str → Str → List Str
  H0 : Hp
  p : Addr
  S : Addr
  L : Addr
  vr : V
  vt : V
  vo : V
structure Sta (c : SC) (B : Addr) (Ln : List Str) (qs : Qs) (n : Nat) (H : Hp) : Prop where
  fr : SmP c.p c.H0 H
  pot : Pot c.p n H
  s : H c.S = some (.dK (stK c.vr c.vt c.vo c.L B))
  r : Rp H c.vr (tupS c.R)
  t : Tb c.R c.t c.vt H
  o : Tb c.R c.o c.vo H
  l : H c.L = some (.lst (Ln.map V.str))
  b : H B = some (.lst (qs.map fun q => V.ref q.1))
  q : ∀ q ∈ qs, H q.1 = some (.lst ((q.2.1 :: q.2.2).map V.str))
  nd : (qs.map (·.1)).Nodup
  lb : c.L ≠ B
  ql : ∀ q ∈ qs, q.1 ≠ c.L
  nS : c.H0 c.S = none
  nL : c.H0 c.L = none
  nB : c.H0 B = none
  nq : ∀ q ∈ qs, c.H0 q.1 = none
theorem Tb.smx {R : List Str} {f : Str → Str → List Str} {v : V} {H H' : Hp} {Y : Addr} (h : Tb R f v H) (x : SmX Y H H') (t : Tk H H') (yd : ∀ kvs, H Y ≠ some (.dT kvs)) : Tb R f v H' := by
  obtain ⟨a, tab, e, o, kvs, h1, h2⟩ := h
  exact ⟨a, tab, e, o, kvs, x a _ (fun z => yd kvs (z ▸ h1)) h1, h2.up t⟩
section
variable {c : SC} {B : Addr} {Ln : List Str} {qs : Qs} {n m : Nat} {H H' : Hp} {Y D : Addr}
theorem Sta.pS (h : Sta c B Ln qs n H) : c.p ≠ c.S := fun z => by
  obtain ⟨_, _, _, e, _⟩ := h.pot
  rw [z, h.s] at e
  cases e
theorem Sta.pL (h : Sta c B Ln qs n H) : c.p ≠ c.L := fun z => by
  obtain ⟨_, _, _, e, _⟩ := h.pot
  rw [z, h.l] at e
  cases Ln <;> simp at e
theorem Sta.pB (h : Sta c B Ln qs n H) : c.p ≠ B := fun z => by
  obtain ⟨_, _, _, e, _⟩ := h.pot
  rw [z, h.b] at e
  cases qs <;> simp at e
theorem Sta.pq (h : Sta c B Ln qs n H) : ∀ q ∈ qs, q.1 ≠ c.p := fun q hq z => by
  obtain ⟨_, _, _, e, _⟩ := h.pot
  rw [← z, h.q q hq] at e
  simp at e
theorem Sta.SL (h : Sta c B Ln qs n H) : c.S ≠ c.L := fun z => by
  have e := h.l
  rw [← z, h.s] at e
  cases e
theorem Sta.SB (h : Sta c B Ln qs n H) : c.S ≠ B := fun z => by
  have e := h.b
  rw [← z, h.s] at e
  cases e
theorem Sta.qS (h : Sta c B Ln qs n H) : ∀ q ∈ qs, q.1 ≠ c.S := fun q hq z => by
  have e := h.q q hq
  rw [z, h.s] at e
  cases e
theorem Sta.qB (h : Sta c B Ln qs n H) : ∀ q ∈ qs, q.1 ≠ B := fun q hq z => by
  have e := h.q q hq
  rw [z, h.b] at e
  cases qs <;> simp at e
theorem Sta.ldT (h : Sta c B Ln qs n H) : ∀ kvs, H c.L ≠ some (.dT kvs) := fun kvs z => by rw [h.l] at z; cases z
/-- a change at Y, that is no part of the state but perhaps the pot -/
theorem Sta.frame (h : Sta c B Ln qs n H) (x : SmX Y H H') (t : Tk H H') (yS : Y ≠ c.S) (yL : Y ≠ c.L) (yB : Y ≠ B) (yq : ∀ q ∈ qs, q.1 ≠ Y) (yd : ∀ kvs, H Y ≠ some (.dT kvs)) (f : SmP c.p c.H0 H') (hp : Pot c.p m H') : Sta c B Ln qs m H' where
  fr := f
  pot := hp
  s := x _ _ (Ne.symm yS) h.s
  r := h.r.up t
  t := h.t.smx x t yd
  o := h.o.smx x t yd
  l := x _ _ (Ne.symm yL) h.l
  b := x _ _ (Ne.symm yB) h.b
  q := fun q hq => x _ _ (yq q hq) (h.q q hq)
  nd := h.nd
  lb := h.lb
  ql := h.ql
  nS := h.nS
  nL := h.nL
  nB := h.nB
  nq := h.nq
theorem Pot.ndT {p : Addr} {n : Nat} {H : Hp} (h : Pot p n H) : ∀ kvs, H p ≠ some (.dT kvs) := fun kvs z => by
  obtain ⟨_, _, _, e, _⟩ := h
  rw [e] at z
  cases z
theorem Sta.smp (h : Sta c B Ln qs n H) (s : SmP c.p H H') (hp : Pot c.p m H') : Sta c B Ln qs m H' :=
  h.frame s.x s.t h.pS h.pL h.pB h.pq h.pot.ndT (h.fr.trans s) hp
theorem Sta.sm (h : Sta c B Ln qs n H) (s : Same H H') : Sta c B Ln qs n H' := h.smp (.of s) (h.pot.sm s)
theorem Sta.mono (h : Sta c B Ln qs n H) (l : n ≤ m) : Sta c B Ln qs m H := h.smp (.refl H) (h.pot.mono l)
/-- a list of the caller's -/
theorem Sta.updD {xs : List V} {o : HO} (h : Sta c B Ln qs n H) (hD : H D = some (.lst xs)) (nD : c.H0 D = none) (yp : D ≠ c.p) (yL : D ≠ c.L) (yB : D ≠ B) (yq : ∀ q ∈ qs, q.1 ≠ D) : Sta c B Ln qs n (upd H D o) := by
  have t : Tk H (upd H D o) := tk_upd fun ys z => by rw [hD] at z; cases z
  refine h.frame (Y := D) (fun a u na e => by rw [upd_ne na]; exact e) t (fun z => ?_) yL yB yq (fun kvs z => by rw [hD] at z; cases z) (SmP.updL nD h.fr t) (h.pot.updL yp)
  rw [z, h.s] at hD
  cases hD
/-! the heap without the state -/
def ers (X : List Addr) (H : Hp) : Hp := fun a => if a ∈ X then none else H a
def Sta.own (c : SC) (B : Addr) (qs : Qs) : List Addr := c.S :: c.L :: B :: qs.map (·.1)
def SC.at_ (c : SC) (B : Addr) (qs : Qs) (H : Hp) : SC := { c with H0 := ers (Sta.own c B qs) H }
theorem ers_in {X : List Addr} {a : Addr} (h : a ∈ X) : ers X H a = none := by unfold ers; rw [if_pos h]
theorem ers_out {X : List Addr} {a : Addr} (h : a ∉ X) : ers X H a = H a := by unfold ers; rw [if_neg h]
theorem ers_le {X : List Addr} {a : Addr} {u : HO} (h : ers X H a = some u) : a ∉ X ∧ H a = some u := by
  unfold ers at h
  split at h
  · cases h
  · exact ⟨‹_›, h⟩
theorem Sta.own_none (h : Sta c B Ln qs n H) : ∀ a ∈ Sta.own c B qs, c.H0 a = none := fun a ha => by
  rcases List.mem_cons.mp ha with rfl | ha
  · exact h.nS
  rcases List.mem_cons.mp ha with rfl | ha
  · exact h.nL
  rcases List.mem_cons.mp ha with rfl | ha
  · exact h.nB
  obtain ⟨q, hq, rfl⟩ := List.mem_map.mp ha
  exact h.nq q hq
theorem Sta.rebase (h : Sta c B Ln qs n H) : Sta (c.at_ B qs H) B Ln qs n H where
  fr := ⟨fun a u _ e => (ers_le e).2, fun a xs e => (ers_le e).2⟩
  pot := h.pot
  s := h.s
  r := h.r
  t := h.t
  o := h.o
  l := h.l
  b := h.b
  q := h.q
  nd := h.nd
  lb := h.lb
  ql := h.ql
  nS := ers_in List.mem_cons_self
  nL := ers_in (List.mem_cons_of_mem _ List.mem_cons_self)
  nB := ers_in (List.mem_cons_of_mem _ (List.mem_cons_of_mem _ List.mem_cons_self))
  nq := fun q hq => ers_in (by
    unfold Sta.own
    exact List.mem_cons_of_mem _ (List.mem_cons_of_mem _ (List.mem_cons_of_mem _ (List.mem_map_of_mem hq))))
/-- back to the caller's base; what the state does not own stays -/
theorem Sta.back {B' : Addr} {Ln' : List Str} {qs' : Qs} (h : Sta c B Ln qs n H) (h' : Sta (c.at_ B qs H) B' Ln' qs' m H') : Sta c B' Ln' qs' m H' ∧ (∀ a u, a ≠ c.p → a ∉ Sta.own c B qs → H a = some u → H' a = some u) ∧ Tk H H' := by
  have keep : ∀ a u, a ≠ c.p → a ∉ Sta.own c B qs → H a = some u → H' a = some u := fun a u n1 n2 e => h'.fr.x a u n1 (by
    show ers _ H a = some u
    rw [ers_out n2]
    exact e)
  have old : ∀ a u, a ≠ c.p → c.H0 a = some u → H' a = some u := fun a u n1 e => keep a u n1 (fun z => by rw [h.own_none a z] at e; cases e) (h.fr.x a u n1 e)
  have tk : Tk H H' := fun a xs e => keep a _ (fun z => h.pot.tup xs (z ▸ e)) (fun z => by
    rcases List.mem_cons.mp z with rfl | z
    · rw [h.s] at e; cases e
    rcases List.mem_cons.mp z with rfl | z
    · rw [h.l] at e; cases e
    rcases List.mem_cons.mp z with rfl | z
    · rw [h.b] at e; cases e
    obtain ⟨q, hq, rfl⟩ := List.mem_map.mp z
    rw [h.q q hq] at e
    cases e) e
  have fresh : ∀ a, a ≠ c.p → (c.at_ B qs H).H0 a = none → c.H0 a = none := fun a na e => by
    by_cases ha : a ∈ Sta.own c B qs
    · exact h.own_none a ha
    · have e1 : H a = none := by
        have e2 : ers (Sta.own c B qs) H a = none := e
        rw [ers_out ha] at e2
        exact e2
      cases e3 : c.H0 a with
      | none => rfl
      | some u => rw [h.fr.x a u na e3] at e1; cases e1
  exact ⟨⟨⟨old, h.fr.t.trans tk⟩, h'.pot, h'.s, h'.r, h'.t, h'.o, h'.l, h'.b, h'.q, h'.nd, h'.lb, h'.ql, h.nS, h.nL, fresh _ (Ne.symm h'.pB) h'.nB, fun q hq => fresh _ (h'.pq q hq) (h'.nq q hq)⟩, keep, tk⟩
/-! changes of the state -/
theorem Sta.learn {ys : List Str} (h : Sta c B Ln qs n H) : Sta c B (Ln ++ ys) qs n (upd H c.L (.lst ((Ln ++ ys).map V.str))) := by
  have x : SmX c.L H (upd H c.L (.lst ((Ln ++ ys).map V.str))) := fun a u na e => by rw [upd_ne na]; exact e
  have t : Tk H (upd H c.L (.lst ((Ln ++ ys).map V.str))) := tk_upd fun ys z => by rw [h.l] at z; cases z
  exact ⟨SmP.updL h.nL h.fr t, h.pot.updL (Ne.symm h.pL), x _ _ h.SL h.s, h.r.up t, h.t.smx x t h.ldT, h.o.smx x t h.ldT, upd_same, x _ _ (Ne.symm h.lb) h.b, fun q hq => x _ _ (h.ql q hq) (h.q q hq), h.nd, h.lb, h.ql, h.nS, h.nL, h.nB, h.nq⟩
/-- one packet's new way -/
def setQ (qs : Qs) (A : Addr) (ws : List Str) : Qs := qs.map fun q => if q.1 = A then (A, q.2.1, ws) else q
theorem setQ_fst (qs : Qs) (A : Addr) (ws : List Str) : (setQ qs A ws).map (·.1) = qs.map (·.1) := by
  unfold setQ
  rw [List.map_map]
  exact List.map_congr_left fun q _ => by
    show (if q.1 = A then (A, q.2.1, ws) else q).1 = q.1
    split
    · rename_i h; exact h.symm
    · rfl
theorem setQ_ref (qs : Qs) (A : Addr) (ws : List Str) : (setQ qs A ws).map (fun q => V.ref q.1) = qs.map fun q => V.ref q.1 := by
  have h := congrArg (List.map V.ref) (setQ_fst qs A ws)
  rw [List.map_map, List.map_map] at h
  exact h
theorem setQ_len (qs : Qs) (A : Addr) (ws : List Str) : (setQ qs A ws).length = qs.length := List.length_map _
theorem setQ_mem {A : Addr} {ws : List Str} {q : Addr × Str × List Str} (hq : q ∈ setQ qs A ws) : (q ∈ qs ∧ q.1 ≠ A) ∨ ∃ q0 ∈ qs, q0.1 = A ∧ q = (A, q0.2.1, ws) := by
  obtain ⟨q0, h0, rfl⟩ := List.mem_map.mp hq
  by_cases h : q0.1 = A
  · exact .inr ⟨q0, h0, h, by rw [if_pos h]⟩
  · exact .inl ⟨by rw [if_neg h]; exact h0, by rw [if_neg h]; exact h⟩
theorem nd_at (nd : (qs.map (·.1)).Nodup) {q q' : Addr × Str × List Str} (h : q ∈ qs) (h' : q' ∈ qs) (e : q.1 = q'.1) : q = q' := by
  obtain ⟨i, hi⟩ := List.getElem?_of_mem h
  obtain ⟨j, hj⟩ := List.getElem?_of_mem h'
  have ei : (qs.map (·.1))[i]? = some q.1 := by rw [List.getElem?_map, hi] <;> rfl
  have ej : (qs.map (·.1))[j]? = some q'.1 := by rw [List.getElem?_map, hj] <;> rfl
  obtain ⟨hi', ei'⟩ := List.getElem?_eq_some_iff.mp ei
  obtain ⟨hj', ej'⟩ := List.getElem?_eq_some_iff.mp ej
  have : i = j := (List.getElem_inj nd).mp (by rw [ei', ej', e])
  rw [this, hj] at hi
  exact (Option.some.inj hi).symm
theorem Sta.move {A : Addr} {d : Str} {ws ws' : List Str} (h : Sta c B Ln qs n H) (hA : (A, d, ws) ∈ qs) : Sta c B Ln (setQ qs A ws') n (upd H A (.lst ((d :: ws').map V.str))) := by
  have hq := h.q _ hA
  have x : SmX A H (upd H A (.lst ((d :: ws').map V.str))) := fun a u na e => by rw [upd_ne na]; exact e
  have t : Tk H (upd H A (.lst ((d :: ws').map V.str))) := tk_upd fun ys z => by rw [hq] at z; cases z
  have yd : ∀ kvs, H A ≠ some (.dT kvs) := fun kvs z => by rw [hq] at z; cases z
  have mem : ∀ q ∈ setQ qs A ws', ∃ q0 ∈ qs, q0.1 = q.1 := fun q hq => by
    rcases setQ_mem hq with ⟨h1, _⟩ | ⟨q0, h0, e, rfl⟩
    · exact ⟨q, h1, rfl⟩
    · exact ⟨q0, h0, e⟩
  refine ⟨SmP.updL (h.nq _ hA) h.fr t, h.pot.updL (h.pq _ hA), x _ _ (Ne.symm (h.qS _ hA)) h.s, h.r.up t, h.t.smx x t yd, h.o.smx x t yd, x _ _ (Ne.symm (h.ql _ hA)) h.l, ?_, fun q hq => ?_, ?_, h.lb, fun q hq => ?_, h.nS, h.nL, h.nB, fun q hq => ?_⟩
  · rw [setQ_ref]
    exact x _ _ (Ne.symm (h.qB _ hA)) h.b
  · rcases setQ_mem hq with ⟨h1, h2⟩ | ⟨q0, h0, e, rfl⟩
    · exact x _ _ h2 (h.q q h1)
    · have := nd_at h.nd h0 hA e
      subst this
      exact upd_same
  · rw [setQ_fst]
    exact h.nd
  · obtain ⟨q0, h0, e⟩ := mem q hq
    rw [← e]
    exact h.ql q0 h0
  · obtain ⟨q0, h0, e⟩ := mem q hq
    rw [← e]
    exact h.nq q0 h0
/-- a packet is sent -/
theorem Sta.send {A : Addr} {d : Str} {ws : List Str} {H1 : Hp} (h : Sta c B Ln qs n H1) (hA : H1 A = some (.lst ((d :: ws).map V.str))) (nA : c.H0 A = none) (aL : A ≠ c.L) (aq : ∀ q ∈ qs, q.1 ≠ A) : Sta c B Ln (qs ++ [(A, d, ws)]) n (upd H1 B (.lst ((qs.map fun q => V.ref q.1) ++ [.ref A]))) := by
  have x : SmX B H1 (upd H1 B (.lst ((qs.map fun q => V.ref q.1) ++ [.ref A]))) := fun a u na e => by rw [upd_ne na]; exact e
  have t : Tk H1 (upd H1 B (.lst ((qs.map fun q => V.ref q.1) ++ [.ref A]))) := tk_upd fun ys z => by rw [h.b] at z; cases z
  have yd : ∀ kvs, H1 B ≠ some (.dT kvs) := fun kvs z => by rw [h.b] at z; cases z
  have aB : A ≠ B := fun z => by
    rw [z, h.b] at hA
    cases qs <;> simp at hA
  refine ⟨SmP.updL h.nB h.fr t, h.pot.updL (Ne.symm h.pB), x _ _ h.SB h.s, h.r.up t, h.t.smx x t yd, h.o.smx x t yd, x _ _ h.lb h.l, ?_, fun q hq => ?_, ?_, h.lb, fun q hq => ?_, h.nS, h.nL, h.nB, fun q hq => ?_⟩
  · rw [List.map_append]
    exact upd_same
  · rcases List.mem_append.mp hq with hq | hq
    · exact x _ _ (h.qB q hq) (h.q q hq)
    · rw [List.mem_singleton.mp hq]
      exact x _ _ aB hA
  · rw [List.map_append]
    refine List.nodup_append.mpr ⟨h.nd, by simp, fun a ha b hb e => ?_⟩
    obtain ⟨q, hq, rfl⟩ := List.mem_map.mp ha
    rw [List.map_cons, List.map_nil, List.mem_singleton] at hb
    exact aq q hq (e.trans hb)
  · rcases List.mem_append.mp hq with hq | hq
    · exact h.ql q hq
    · rw [List.mem_singleton.mp hq]
      exact aL
  · rcases List.mem_append.mp hq with hq | hq
    · exact h.nq q hq
    · rw [List.mem_singleton.mp hq]
      exact nA
/-- the packets are gone -/
theorem Sta.reset {B' : Addr} (h : Sta c B Ln qs n H) (hB : H B' = some (.lst [])) (nB : c.H0 B' = none) (bL : c.L ≠ B') : Sta c B' Ln [] n (upd H c.S (.dK (stK c.vr c.vt c.vo c.L B'))) := by
  have x : SmX c.S H (upd H c.S (.dK (stK c.vr c.vt c.vo c.L B'))) := fun a u na e => by rw [upd_ne na]; exact e
  have t : Tk H (upd H c.S (.dK (stK c.vr c.vt c.vo c.L B'))) := tk_upd fun ys z => by rw [h.s] at z; cases z
  have yd : ∀ kvs, H c.S ≠ some (.dT kvs) := fun kvs z => by rw [h.s] at z; cases z
  have nSB : B' ≠ c.S := fun z => by
    rw [z, h.s] at hB
    cases hB
  exact ⟨SmP.updL h.nS h.fr t, h.pot.updL (Ne.symm h.pS), upd_same, h.r.up t, h.t.smx x t yd, h.o.smx x t yd, x _ _ (Ne.symm h.SL) h.l, x _ _ nSB hB, (fun q hq => by cases hq), by simp, bL, (fun q hq => by cases hq), h.nS, h.nL, nB, (fun q hq => by cases hq)⟩
end
/-! ### readings of the state -/
section
variable {K : PySem.W.Frag} {σ : L2.St} {H : Hp} {td te : TE} {c : SC} {B : Addr} {Ln : List Str} {qs : Qs} {n : Nat}
theorem ev_sget {S : Addr} {kvs : List (Key × V)} {k : Str} {v : V} (hd : Ev td σ H (Ex (.ref S))) (hS : H S = some (.dK kvs)) (e : valV kvs (sk k) = some v) : Ev (tDGet td (tC (.str k))) σ H (Ex v) := fun H1 s Q q => hd H1 s _ fun x H2 s2 p => by
  obtain rfl : x = .ref S := p
  exact ⟨S, v, rfl, .inl ⟨kvs, sk k, .inl ((s.trans s2) _ _ hS), rfl, e.symm⟩, q v H2 s2 rfl⟩
theorem ev_sR (h : Sta c B Ln qs n H) (hd : Ev td σ H (Ex (.ref c.S))) : Ev (tDGet td (tC (.str "routers"))) σ H (Dd (tupS c.R)) := (ev_sget hd h.s (stK_r _ _ _ _ _)).imp fun v H' s e => by
  rw [show v = c.vr from e]
  exact h.r.sm s
theorem ev_sT (h : Sta c B Ln qs n H) (hd : Ev td σ H (Ex (.ref c.S))) : Ev (tDGet td (tC (.str "tables"))) σ H (Tb c.R c.t) := (ev_sget hd h.s (stK_t _ _ _ _ _)).imp fun v H' s e => by
  rw [show v = c.vt from e]
  exact stb_tb _ _ _ _ _ s h.t
theorem ev_sO (h : Sta c B Ln qs n H) (hd : Ev td σ H (Ex (.ref c.S))) : Ev (tDGet td (tC (.str "others"))) σ H (Tb c.R c.o) := (ev_sget hd h.s (stK_o _ _ _ _ _)).imp fun v H' s e => by
  rw [show v = c.vo from e]
  exact stb_tb _ _ _ _ _ s h.o
theorem ev_sL (h : Sta c B Ln qs n H) (hd : Ev td σ H (Ex (.ref c.S))) : Ev (tDGet td (tC (.str "learnt"))) σ H (Ex (.ref c.L)) := ev_sget hd h.s (stK_l _ _ _ _ _)
theorem ev_sP (h : Sta c B Ln qs n H) (hd : Ev td σ H (Ex (.ref c.S))) : Ev (tDGet td (tC (.str "packets"))) σ H (Ex (.ref B)) := ev_sget hd h.s (stK_p _ _ _ _ _)
theorem ls_str {a : Addr} {xs : List Str} (h : H a = some (.lst (xs.map V.str))) : Ls (xs.map PyData.str) (.ref a) H := ⟨a, _, rfl, h, rp_tupS_all.mpr rfl⟩
theorem ev_exL {a : Addr} {xs : List Str} (h : H a = some (.lst (xs.map V.str))) (hd : Ev te σ H (Ex (.ref a))) : Ev te σ H (Ls (xs.map PyData.str)) := hd.imp fun v H' s e => by
  rw [show v = .ref a from e]
  exact ls_str (s _ _ h)
end
section
variable {P : Program} {w : World} {K : PySem.W.Frag} {mg : Str → Option Value} {base : Heap}
abbrev sNow : Stmt := top 73
theorem scNow : FnScope ["_law_st", "_law_a", "_law_d"] ["_law_st", "_law_a", "_law_d"] (defScope sNow) := ⟨rfl, rfl, rfl, by decide +kernel, rfl, by decide +kernel, by decide +kernel⟩
def spNow : Sp := fun vs H Q _ => ∃ (c : SC) (B : Addr) (Ln : List Str) (qs : Qs) (n : Nat) (a d : Str), vs = [.ref c.S, .str a, .str d] ∧ Sta c B Ln qs n H ∧ a ∈ c.R ∧ d ∈ c.R ∧ ∀ v H', Same H H' → Dd (tupS (mixF c.t c.o Ln a d)) v H' → Q v H'
theorem cal_now (D : Std K mg "_law_now" sNow) (T : Gc mg) : Cal P w K mg base "_law_now" ["_law_st", "_law_a", "_law_d"] 1 spNow := by
  refine D.cal scNow (fun vs H Q E h => ?_) (fun _ _ _ _ _ _ us hl => match us, hl with | [_, _, _], _ => rfl) (fun f cdv A outer s H vs Q E hr h => ?_)
  · obtain ⟨c, B, Ln, qs, n, a, d, rfl, _⟩ := h
    rfl
  · obtain ⟨c, B, Ln, qs, n, a, d, rfl, st, ha, hd, k⟩ := h
    have nd := scNow.nd
    have hu := hu_of hr
    refine ⟨_, (pss_one (ps_ret (pe_ifExp (pt_cmpR (k_in (K := K)) (pv 1) (pe_dget hu (pv 0) pe_str (fun _ _ => rfl)) rfl) (pe_dget hu (pe_dget hu (pv 0) pe_str (fun _ _ => rfl)) (pe_tup (pa_cons (pv 1) (pa_cons (pv 2) pa_nil))) (fun _ _ => rfl)) (pe_dget hu (pe_dget hu (pv 0) pe_str (fun _ _ => rfl)) (pe_tup (pa_cons (pv 1) (pa_cons (pv 2) pa_nil))) (fun _ _ => rfl))))), ?_⟩
    refine s_ret (ev_if (b := decide (a ∈ Ln)) (et_test (ev_inL (ev_varS rfl) (ev_exL st.l (ev_sL st (ev_varX rfl))))) (fun e => ?_) (fun e => ?_)) k
    · have e' : mixF c.t c.o Ln a d = c.o a d := by unfold mixF; rw [if_pos (of_decide_eq_true e)]
      rw [e']
      exact ev_tb (ev_sO st (ev_varX rfl)) (ev_pair (ev_varS rfl) (ev_varS rfl)) ha hd
    · have e' : mixF c.t c.o Ln a d = c.t a d := by unfold mixF; rw [if_neg (of_decide_eq_false e)]
      rw [e']
      exact ev_tb (ev_sT st (ev_varX rfl)) (ev_pair (ev_varS rfl) (ev_varS rfl)) ha hd
end
end Qt
/-! QLo: _law_gone_on, _law_deed. -/
namespace Qt
open PySem PySem.Spec PyProof.Rows L2
section
variable {K : PySem.W.Frag} {p : Addr} {σ : L2.St} {H : Hp} {te tl to : TE} {tt : TT} {as : TA} {m n : Nat} {D : Ends}
/-- xs.append(e), e drawn -/
theorem s_appendV {A : Addr} {xs : List V} {Pd : VP} (hA : H A = some (.lst xs)) (nA : A ≠ p) (hL : Ev to σ H (Ex (.ref A))) (h : ∀ H1, Same H H1 → Em p te σ H1 m Pd) (hz : xs.length ≤ 50000) (q : ∀ y H1, SmP p H H1 → Pot p m H1 → Pd y H1 → D.nx σ (upd H1 A (.lst (xs ++ [y])))) : tDrop (tBM K "list" rAppend to (tCons te tNil)) D σ H := hL H (Same.refl _) _ fun v H1 s1 p1 => by
  obtain rfl : v = .ref A := p1
  refine ⟨.inl ⟨rfl, _, SqL.of (s1 _ _ hA)⟩, h H1 s1 _ fun y H2 s2 hp2 p2 => ?_⟩
  exact ⟨A, xs, y, rfl, rfl, s2.x _ _ nA (s1 _ _ hA), Nat.lt_of_le_of_lt hz (by decide), q y H2 ((SmP.of s1).trans s2) hp2 p2⟩
/-- one of a row of values -/
theorem em_ofV {U : Addr} {xs : List V} (ha : EmA p as σ H n [Ex (.ref p), fun v H' => v = .ref U ∧ SeqA U xs H']) (nU : U ≠ p) (hne : xs ≠ []) (hz : xs.length ≤ 1000) (hn : n ≤ 10 ^ 15) : Em p (tCall spOf [] E0 as) σ H (n + 1) (fun v _ => v ∈ xs) := em_call ha fun vs H1 s1 hp1 ⟨v, r, e1, p1, u, r2, e2, ⟨p2, q2⟩, e3⟩ Q q => by
  subst e1 e2 e3 p2
  obtain rfl : v = .ref p := p1
  exact ⟨p, .ref U, n, rfl, hp1, hn, .inl ⟨U, xs, rfl, nU, q2, hne, hz, fun x H2 hx s2 hp2 => q x H2 s2 hp2 hx⟩⟩
/-- a comprehension over a list of whatever -/
theorem ev_lcA {α : Type} {j : Nat} {vs : List Nat} {items : List α} (emb : α → V) (f : α → Bool) (g : α → V) (h : Ev tl σ H (fun v H' => ∃ a, v = .ref a ∧ H' a = some (.lst (items.map emb)))) (hz : items.length ≤ 50000) (hw : ∀ v, wipe ((wipe σ vs).set j (some v)) vs = wipe σ vs)
    (turn : ∀ a ∈ items, ∀ H1, Same H H1 → EvT tt ((wipe σ vs).set j (some (emb a))) H1 (f a) ∧ (f a = true → Ev te ((wipe σ vs).set j (some (emb a))) H1 (Ex (g a)))) :
    Ev (tLc (iList K tl) (gName j) tt te vs) σ H (fun v H' => ∃ D, v = .ref D ∧ H D = none ∧ H' D = some (.lst ((items.filter f).map g))) := fun H0 s0 Q q => h H0 s0 _ fun v H1 s1 ⟨a, e, ha⟩ => by
  subst e
  refine ⟨a, rfl, ⟨_, SqL.of ha⟩, fun D hD => lc_list (K := K) (a := a) (xs := items.map emb) (fun i H' => H1 D = none ∧ Same H1 H' ∧ H' D = some (.lst (((items.take i).filter f).map g))) ⟨hD, same_new hD, upd_same⟩ (fun i H' _ p => SqL.of (p.2.1 a _ ha)) (fun i x H' hi p => ⟨hw x, ?_⟩) (fun H' p => ?_)⟩
  · rw [List.getElem?_map] at hi
    cases hk : items[i]? with
    | none => rw [hk] at hi; cases hi
    | some b =>
      rw [hk] at hi
      cases hi
      obtain ⟨p1, p2, p3⟩ := p
      obtain ⟨t1, t2⟩ := turn b (List.mem_of_getElem? hk) H' ((s0.trans s1).trans p2)
      refine t1 H' (Same.refl _) _ fun H3 s3 => ?_
      cases hf : f b with
      | true =>
        show te _ H3 _
        refine t2 hf H3 s3 _ fun y H4 s4 py => ?_
        obtain rfl : y = g b := py
        have e4 := s4 _ _ (s3 _ _ p3)
        refine ⟨_, e4, ?_, p1, same_mut ((p2.trans s3).trans s4) p1, ?_⟩
        · rw [List.length_map]
          have h1 := List.length_filter_le f (items.take i)
          have h2 : (items.take i).length ≤ items.length := by rw [List.length_take]; omega
          exact Nat.lt_of_le_of_lt (Nat.le_trans (Nat.le_trans h1 h2) hz) (by decide)
        · rw [take_succ hk, List.filter_append, List.map_append, List.filter_cons, if_pos hf]
          exact upd_same
      | false =>
        show H1 D = none ∧ Same H1 H3 ∧ _
        refine ⟨p1, p2.trans s3, ?_⟩
        rw [take_succ hk, List.filter_append, List.map_append, List.filter_cons, if_neg (by rw [hf]; decide)]
        simpa using s3 _ _ p3
  · obtain ⟨p1, p2, p3⟩ := p
    rw [List.length_map, List.take_length] at p3
    exact q _ H' (s1.trans p2) ⟨D, rfl, none_of (s0.trans s1) p1, p3⟩
end
/-! ### a packet -/
theorem cutD_mid (d : PyData) (ws : List PyData) (y : PyData) : cutD (d :: (ws ++ [y])) (some 1) (some (-1)) = ws := by
  unfold cutD
  have hl : (d :: (ws ++ [y])).length = ws.length + 2 := by simp
  rw [hl]
  have h1 : HT.sIx (ws.length + 2) 0 (some (1 : Int)) = 1 := by
    show (if (1 : Int) < 0 then ((1 : Int) + ((ws.length + 2 : Nat) : Int)).toNat else min (1 : Int).toNat (ws.length + 2)) = 1
    rw [if_neg (by decide)]
    have : (1 : Int).toNat = 1 := rfl
    omega
  have h2 : HT.sIx (ws.length + 2) (ws.length + 2) (some (-1 : Int)) = ws.length + 1 := by
    show (if (-1 : Int) < 0 then ((-1 : Int) + ((ws.length + 2 : Nat) : Int)).toNat else min (-1 : Int).toNat (ws.length + 2)) = ws.length + 1
    rw [if_pos (by decide)]
    omega
  rw [h1, h2]
  show ((ws ++ [y]).take (ws.length + 1 - 1)) = ws
  rw [Nat.add_sub_cancel]
  exact List.take_left' rfl
theorem last_pkt {d x : Str} {ws : List Str} (h : ws.getLast? = some x) : ((d :: ws).map PyData.str).getLast? = some (.str x) := by
  rw [List.getLast?_map, List.getLast?_cons, h] <;> rfl
theorem shaped_str {x : Str} (h : PyData.strOk x = true) : SeqAt.shaped (.str x) = true := by
  unfold SeqAt.shaped
  rw [Bool.and_eq_true]
  exact ⟨by simp only [PyData.canLay0]; exact h, decide_eq_true (by simp [PyData.depth])⟩
theorem eqv_tupS_nil (xs : List Str) : PyData.eqv (tupS xs) (.tuple []) = decide (xs = []) := by
  cases xs <;> rfl
theorem eqv_str1 (x y : Str) : PyData.eqv (.str x) (.str y) = decide (x = y) := by
  show (x == y) = _
  by_cases e : x = y
  · subst e; simp
  · simp [e]
section
variable {K : PySem.W.Frag} {σ : L2.St} {H : Hp} {te ta tb : TE} {xs : List Str} {x y d : Str} {ws : List Str}
theorem ev_nilT (h : Ev te σ H (Dd (tupS xs))) (ok : ∀ x ∈ xs, PyData.strOk x = true) : Ev (tOp (rEqD K) te (tTup tNil)) σ H (Dd (.bool (decide (xs = [])))) := by
  rw [← eqv_tupS_nil]
  exact ev_eqD h (stb_d _) (ev_tup (ds := []) ea_nil (by simp)) (fun _ _ p => Rp.dp _ _ p) (fun _ _ p => Rp.dp _ _ p) (shaped_tupS ok) (by rfl)
theorem ev_nnilT (h : Ev te σ H (Dd (tupS xs))) (ok : ∀ x ∈ xs, PyData.strOk x = true) : Ev (tOp (rNeD K) te (tTup tNil)) σ H (Dd (.bool (!decide (xs = [])))) := by
  rw [← eqv_tupS_nil]
  exact ev_neD h (stb_d _) (ev_tup (ds := []) ea_nil (by simp)) (fun _ _ p => Rp.dp _ _ p) (fun _ _ p => Rp.dp _ _ p) (shaped_tupS ok) (by rfl)
theorem ev_neSD (ha : Ev ta σ H (Dd (.str x))) (hb : Ev tb σ H (Dd (.str y))) (hx : PyData.strOk x = true) (hy : PyData.strOk y = true) : Ev (tOp (rNeD K) ta tb) σ H (Dd (.bool (!decide (x = y)))) := by
  rw [← eqv_str1]
  exact ev_neD ha (stb_d _) hb (fun _ _ p => Rp.dp _ _ p) (fun _ _ p => Rp.dp _ _ p) (shaped_str hx) (shaped_str hy)
/-- packet[0], packet[-1] -/
theorem ev_p0 (h : Ev te σ H (Ls ((d :: ws).map PyData.str))) : Ev (tOp (rIxL K) te (tC (.int 0))) σ H (Dd (.str d)) := ev_ixL (j := 0) h ev_int rfl rfl
theorem ev_pl (h : Ev te σ H (Ls ((d :: ws).map PyData.str))) (hx : ws.getLast? = some x) : Ev (tOp (rIxL K) te (tUn (rU fun i => .int (-i)) (tC (.int 1)))) σ H (Dd (.str x)) := ev_lastL h (ev_neg ev_int) (last_pkt hx)
end
section
variable {c : SC} {B : Addr} {Ln : List Str} {qs : Qs} {n : Nat} {H : Hp} {a d : Str}
theorem Sta.mixLen (st : Sta c B Ln qs n H) (ha : a ∈ c.R) (hd : d ∈ c.R) : (mixF c.t c.o Ln a d).length ≤ 10 := by
  obtain ⟨_, tab, _, o1, _⟩ := st.t
  obtain ⟨_, tab', _, o2, _⟩ := st.o
  unfold mixF
  split
  · exact o2.len a ha d hd
  · exact o1.len a ha d hd
/-- _law_now(st, a, d) -/
theorem ev_now {σ : L2.St} {ts ta td : TE} (st : Sta c B Ln qs n H) (hs : Ev ts σ H (Ex (.ref c.S))) (h1 : Ev ta σ H (Dd (.str a))) (h2 : Ev td σ H (Dd (.str d))) (ha : a ∈ c.R) (hd : d ∈ c.R) : Ev (tCall spNow [] E0 (tCons ts (tCons ta (tCons td tNil)))) σ H (Dd (tupS (mixF c.t c.o Ln a d))) := ev_call (ea_x hs (ea_d h1 (ea_d h2 ea_nil))) fun vs H3 s3 ⟨v, r, e1, p1, u, r2, e2, p2, u3, r3, e3, p3, e4⟩ Q q => by
  subst e1 e2 e3 e4
  obtain rfl : v = .ref c.S := p1
  exact ⟨c, B, Ln, qs, n, a, d, by rw [rp_str p2, rp_str p3], st.sm s3, ha, hd, q⟩
end
section
variable {P : Program} {w : World} {K : PySem.W.Frag} {mg : Str → Option Value} {base : Heap}
abbrev sGoneOn : Stmt := top 74
theorem scGoneOn : FnScope ["_law_pot_here", "_law_st", "_law_packet", "_law_goals", "_law_d", "_law_at"] ["_law_pot_here", "_law_st", "_law_packet"] (defScope sGoneOn) := ⟨rfl, rfl, rfl, by decide +kernel, rfl, by decide +kernel, by decide +kernel⟩
def spGoneOn : Sp := fun vs H Q _ => ∃ (c : SC) (B : Addr) (Ln : List Str) (qs : Qs) (n : Nat) (A : Addr) (d x : Str) (ws M s : List Str), vs = [.ref c.p, .ref c.S, .ref A] ∧ Sta c B Ln qs n H ∧ n + 1 ≤ 10 ^ 15 ∧ (A, d, ws) ∈ qs ∧ Rnd c.R c.t c.o M s ∧ Btw c.R M s Ln ∧ Way c.R c.t c.o M s (d, ws) ∧ ws.getLast? = some x ∧ x ≠ d ∧
  (mixF c.t c.o Ln x d = [] → ∀ H', Same H H' → Q (.bl true) H') ∧ (∀ y H', y ∈ mixF c.t c.o Ln x d → Way c.R c.t c.o M s (d, ws ++ [y]) → Sta c B Ln (setQ qs A (ws ++ [y])) (n + 1) H' → Tk H H' → Q (.bl true) H')
theorem cal_gone_on (D : Std K mg "_law_gone_on" sGoneOn) (T : Gc mg) (C_law_now : Cal P w K mg base "_law_now" ["_law_st", "_law_a", "_law_d"] 1 spNow) (C_law_of : Cal P w K mg base "_law_of" ["_law_pot_here", "_law_some"] 2 spOf) : Cal P w K mg base "_law_gone_on" ["_law_pot_here", "_law_st", "_law_packet"] 3 spGoneOn := by
  refine D.cal scGoneOn (fun vs H Q E h => ?_) (fun _ _ _ _ _ _ us hl => match us, hl with | [_, _, _], _ => rfl) (fun f cdv A outer s H vs Q E hr h => ?_)
  · obtain ⟨c, B, Ln, qs, n, A, d, x, ws, M, s, rfl, _⟩ := h
    rfl
  · obtain ⟨c, B, Ln, qs, n, A, d, x, ws, M, s, rfl, st, hn, hA, rn, bt, wy, hx, hxd, k1, k2⟩ := h
    have nd := scGoneOn.nd
    refine ⟨_, (pss_cons (ps_par (i := 4) (j := 5) rfl nd rfl rfl (by decide) rfl rfl (pa_cons (pe_ix (k_ixL (K := K)) (pv 2) pe_int (fun _ _ => rfl)) (pa_cons (pe_ix (k_ixL (K := K)) (pv 2) (pe_un un_neg pe_int) (fun _ _ => rfl)) pa_nil)) (by rfl))
 (pss_cons (ps_set (i := 3) nd rfl (Or.inl rfl) (pe_cal C_law_now (hr.mono (by decide)) (pa_cons (pv 1) (pa_cons (pv 5) (pa_cons (pv 4) pa_nil)))))
 (pss_cons (ps_if (pt_cmpR (k_eqD (K := K) hr.units) (pv 3) (pe_tup pa_nil) (nomark _)) (pss_one (ps_ret (pe_cmpR op_lt (pe_callB (k_len (K := K)) (by rfl) T.b.len (by decide +kernel) (pa_cons (pv 2) pa_nil)) pe_int (nomark _)))) pss_nil)
 (pss_cons (ps_expr (k_append (K := K) (pv 2) (pe_cal C_law_of (hr.mono (by decide)) (pa_cons (pv 0) (pa_cons (pv 3) pa_nil)))))
 (pss_one (ps_ret (pe_cmpR (k_notIn (K := K)) (pe_ix (k_ixL (K := K)) (pv 2) (pe_un un_neg pe_int) (fun _ _ => rfl)) (pe_slice (k_slL (K := K)) (pv 2) (po_some pe_int) (po_some (pe_un un_neg pe_int))) rfl))))))), ?_⟩
    have hq := st.q _ hA
    obtain ⟨x', e', xR⟩ := wy.last
    have e' : ws.getLast? = some x' := e'
    rw [hx] at e'
    cases e'
    have dR : d ∈ c.R := wy.1
    have wl : ws.length ≤ c.R.length := wy.len rn
    have r5 := rn.r5
    have goks : ∀ y ∈ mixF c.t c.o Ln x d, PyData.strOk y = true := fun y hy => rn.ok y (rn.mixR Ln x d y hy)
    -- d, at
    refine s_par (A := Dd (.str d)) (B := Dd (.str x)) (ea_d (ev_p0 (ev_var rfl (ls_str hq) (stb_l _))) (ea_d (ev_pl (ev_var rfl (ls_str hq) (stb_l _)) hx) ea_nil)) fun v4 v5 H1 s1 p4 p5 => ?_
    rw [rp_str p4, rp_str p5]
    refine nx_of ?_
    have st1 := st.sm s1
    -- goals
    refine s_set (P := Dd (tupS (mixF c.t c.o Ln x d))) (ev_now st1 (ev_varX rfl) (ev_varS rfl) (ev_varS rfl) xR dR) fun v3 H2 s2 p3 => ?_
    refine nx_of ?_
    have st2 := st1.sm s2
    have hq2 := st2.q _ hA
    refine s_if (et_test (ev_nilT (ev_varD rfl p3) goks)) (fun e H3 s3 => ?_) (fun e H3 s3 => ?_)
    · have e0 := of_decide_eq_true e
      have hlen : ws.length < 2 := by
        refine Nat.lt_of_not_le fun z => ?_
        exact wy.goes rn bt z hx hxd e0
      have hq3 := s3 _ _ hq2
      refine s_ret (P := Dd (.bool true)) (ev_is (ev_lt (ev_lenL (ev_var rfl (ls_str hq3) (stb_l _))) ev_int) ?_) fun v H4 s4 p4 => ?_
      · rw [decide_eq_true]
        have el : (((A, d, ws).2.1 :: (A, d, ws).2.2).map PyData.str).length = ws.length + 1 := by simp
        rw [el]
        omega
      · rw [rp_bl p4]
        exact k1 e0 H4 (((s1.trans s2).trans s3).trans s4)
    · have e0 := of_decide_eq_false e
      refine nx_of ?_
      have st3 := st2.sm s3
      have hq3 := st3.q _ hA
      have ml := st3.mixLen xR dR
      refine s_appendV (p := c.p) (m := n + 1) (Pd := fun v _ => ∃ y, v = .str y ∧ y ∈ mixF c.t c.o Ln x d) hq3 (st3.pq _ hA) (ev_varX rfl) (fun H4 s4 => (em_of (p := c.p) (n := n) (ds := (mixF c.t c.o Ln x d).map PyData.str) (A := Dd (tupS (mixF c.t c.o Ln x d))) (ema_ev (ea_x (ev_varX rfl) (ea_d (ev_varD rfl ((p3.sm s3).sm s4)) ea_nil)) ((st3.sm s4).pot)) (fun v H1 _ h => .inr h) (fun z => e0 (List.map_eq_nil_iff.mp z)) (by rw [List.length_map]; omega) (by omega)).imp fun v H5 _ _ ⟨dd, hd, rd⟩ => ?_) (by rw [List.length_map, List.length_cons]; show ws.length + 1 ≤ _; omega) fun y H4 s4 hp4 ⟨y', ey, hy⟩ => ?_
      · obtain ⟨y, hy, rfl⟩ := List.mem_map.mp hd
        exact ⟨y, rp_str rd, hy⟩
      · subst ey
        refine nx_of ?_
        have st4 := st3.smp s4 hp4
        obtain ⟨w2, ny⟩ := wy.hop rn bt hx hxd hy
        have st5 := st4.move (ws' := ws ++ [y']) hA
        have tA : Tk H4 (upd H4 A (.lst ((d :: (ws ++ [y'])).map V.str))) := tk_upd fun xs z => by rw [st4.q _ hA] at z; cases z
        have eH : (upd H4 A (.lst ((d :: ws).map V.str ++ [V.str y']))) = (upd H4 A (.lst ((d :: (ws ++ [y'])).map V.str))) := by
          rw [show (d :: ws).map V.str ++ [V.str y'] = (d :: (ws ++ [y'])).map V.str from by rw [← List.cons_append, List.map_append] <;> rfl]
        rw [show ((d, ws).1 :: (d, ws).2) = d :: ws from rfl, eH]
        generalize (upd H4 A (.lst ((d :: (ws ++ [y'])).map V.str))) = H5 at st5 tA
        have hA5 : (A, d, ws ++ [y']) ∈ setQ qs A (ws ++ [y']) := List.mem_map.mpr ⟨_, hA, by rw [if_pos rfl]⟩
        have hq5 := st5.q _ hA5
        have hl5 : (ws ++ [y']).getLast? = some y' := List.getLast?_concat
        have evs : Ev (tSl (rSlL K) (tVar 2) (tPart (tC (.int 1))) (tPart (tUn (rU fun i => .int (-i)) (tC (.int 1))))) [some (.ref c.p), some (.ref c.S), some (.ref A), some v3, some (.str d), some (.str x)] H5 (Ls (ws.map PyData.str)) := by
          have := ev_slL (K := K) (ev_var (i := 2) (σ := [some (.ref c.p), some (.ref c.S), some (.ref A), some v3, some (.str d), some (.str x)]) rfl (ls_str hq5) (stb_l _)) (eo_some (ev_int (i := 1))) (eo_some (ev_neg (ev_int (i := 1))))
          rw [show ((A, d, ws ++ [y']).2.1 :: (A, d, ws ++ [y']).2.2).map PyData.str = PyData.str d :: (ws.map PyData.str ++ [.str y']) from by rw [List.map_cons, List.map_append] <;> rfl, cutD_mid] at this
          exact this
        refine s_ret (P := Dd (.bool true)) (ev_is (ev_notInL (ev_pl (ev_var rfl (ls_str hq5) (stb_l _)) hl5) evs) (by simp [ny])) fun v H6 s6 p6 => ?_
        rw [rp_bl p6]
        exact k2 y' H6 hy w2 (st5.sm s6) ((((((tk_same s1).trans (tk_same s2)).trans (tk_same s3)).trans s4.t).trans tA).trans (tk_same s6))
end
end Qt
/-! QLp: _law_deed. -/
namespace Qt
open PySem PySem.Spec PyProof.Rows L2
def lastQ (q : Addr × Str × List Str) : Str := q.2.2.getLast?.getD q.2.1
theorem lastQ_of {q : Addr × Str × List Str} {x : Str} (h : q.2.2.getLast? = some x) : lastQ q = x := by
  unfold lastQ
  rw [h] <;> rfl
def undQ (qs : Qs) : Qs := qs.filter fun q => !decide (q.2.1 = lastQ q)
def StrIn (R : List Str) : VP := fun v _ => ∃ y, v = .str y ∧ y ∈ R
section
variable {K : PySem.W.Frag} {p : Addr} {σ : L2.St} {H : Hp} {as : TA} {m n : Nat} {D : Ends} {sp : Sp} {Ps : List VP}
theorem s_retC (ha : EmA p as σ H m Ps) (q : ∀ vs H1, SmP p H H1 → Pot p m H1 → AllP Ps vs H1 → sp vs H1 D.rt E0) : tRet (tCall sp [] E0 as) D σ H := ha _ fun vs H1 s1 hp p1 => by
  rw [List.append_nil]
  exact q vs H1 s1 hp p1
theorem em_ofS {R : List Str} {tp tr : TE} (hp : Pot p n H) (ep : Ev tp σ H (Ex (.ref p))) (er : Ev tr σ H (Dd (tupS R))) (ne : R ≠ []) (hz : R.length ≤ 1000) (hn : n ≤ 10 ^ 15) : Em p (tCall spOf [] E0 (tCons tp (tCons tr tNil))) σ H (n + 1) (StrIn R) := (em_of (ds := R.map PyData.str) (A := Dd (tupS R)) (ema_ev (ea_x ep (ea_d er ea_nil)) hp) (fun v H1 _ h => .inr h) (fun z => ne (List.map_eq_nil_iff.mp z)) (by rw [List.length_map]; exact hz) hn).imp fun v H1 _ _ ⟨d, hd, rd⟩ => by
  obtain ⟨y, hy, rfl⟩ := List.mem_map.mp hd
  exact ⟨y, rp_str rd, hy⟩
theorem ev_new2 {i j : Nat} {x y : V} (h1 : σ[i]? = some (some x)) (h2 : σ[j]? = some (some y)) : Ev (tLst (tCons (tVar i) (tCons (tVar j) tNil))) σ H (fun v H' => ∃ A, v = .ref A ∧ H A = none ∧ H' A = some (.lst [x, y])) := fun H1 s Q q =>
  ⟨x, h1, y, h2, by show 2 ≤ sizeLine; decide, fun A hA => q _ _ (same_new hA) ⟨A, rfl, none_of s hA, upd_same⟩⟩
end
theorem stb_seq (U : Addr) (xs : List V) : Stb (fun v H' => v = .ref U ∧ SeqA U xs H') := fun v Ha Hb s ⟨e, h⟩ => ⟨e, h.elim (fun z => .inl (s _ _ z)) fun z => .inr (s _ _ z)⟩
/-! lists of packets as data -/
def pkD (q : Addr × Str × List Str) : PyData := .list ((q.2.1 :: q.2.2).map PyData.str)
theorem shaped_pks {qs : Qs} (h : ∀ q ∈ qs, ∀ x ∈ q.2.1 :: q.2.2, PyData.strOk x = true) : SeqAt.shaped (.list (qs.map pkD)) = true := by
  unfold SeqAt.shaped
  rw [Bool.and_eq_true]
  have h0 : ∀ xs : List Str, (∀ x ∈ xs, PyData.strOk x = true) → PyData.canLayAll0 (xs.map PyData.str) = true := fun xs => by
    induction xs with
    | nil => exact fun _ => rfl
    | cons x l ih =>
      intro h
      rw [List.map_cons]
      simp only [PyData.canLayAll0, PyData.canLay0, Bool.and_eq_true]
      exact ⟨h x List.mem_cons_self, ih fun y hy => h y (List.mem_cons_of_mem _ hy)⟩
  have d0 : ∀ xs : List Str, PyData.depthAll (xs.map PyData.str) = 0 := fun xs => by
    induction xs with
    | nil => rfl
    | cons x l ih =>
      rw [List.map_cons]
      simp only [PyData.depthAll, PyData.depth, ih]
      rfl
  have h1 : ∀ qs : Qs, (∀ q ∈ qs, ∀ x ∈ q.2.1 :: q.2.2, PyData.strOk x = true) → PyData.canLayAll0 (qs.map pkD) = true := fun qs => by
    induction qs with
    | nil => exact fun _ => rfl
    | cons q l ih =>
      intro h
      have e1 := ih fun m hm => h m (List.mem_cons_of_mem _ hm)
      have e2 := h0 _ (h q List.mem_cons_self)
      rw [List.map_cons]
      simp only [PyData.canLayAll0, pkD, PyData.canLay0, Bool.and_eq_true]
      exact ⟨by simpa [PyData.canLay0] using e2, e1⟩
  have h2 : ∀ qs : Qs, PyData.depthAll (qs.map pkD) ≤ 1 := fun qs => by
    induction qs with
    | nil => exact Nat.zero_le _
    | cons q l ih =>
      have := d0 (q.2.1 :: q.2.2)
      rw [List.map_cons]
      simp only [PyData.depthAll, pkD, PyData.depth, this]
      omega
  have h3 : (PyData.list (qs.map pkD)).depth ≤ 64 := by
    have := h2 qs
    simp only [PyData.depth]
    omega
  exact ⟨by simp only [PyData.canLay0]; exact h1 qs h, decide_eq_true h3⟩
theorem eqv_list_nil (ds : List PyData) : PyData.eqv (.list ds) (.list []) = decide (ds = []) := by
  cases ds <;> rfl
def PksP (U : Addr) (qs : Qs) : VP := fun v H => v = .ref U ∧ H U = some (.lst (qs.map fun q => V.ref q.1)) ∧ ∀ q ∈ qs, H q.1 = some (.lst ((q.2.1 :: q.2.2).map V.str))
theorem stb_pks (U : Addr) (qs : Qs) : Stb (PksP U qs) := fun v H H' s ⟨e, h1, h2⟩ => ⟨e, s _ _ h1, fun q hq => s _ _ (h2 q hq)⟩
theorem dp_pks {K : PySem.W.Frag} {U : Addr} {qs : Qs} {v : V} {H : Hp} (h : PksP U qs v H) : Dp K H v (.list (qs.map pkD)) := by
  obtain ⟨rfl, h1, h2⟩ := h
  refine .lst (SqL.of h1) ?_
  clear h1
  induction qs with
  | nil => exact .nil
  | cons q qs ih =>
    refine .cons ?_ (ih fun q' hq => h2 q' (List.mem_cons_of_mem _ hq))
    exact dp_ls (ls_str (h2 q List.mem_cons_self))
theorem ev_noPk {K : PySem.W.Frag} {σ : L2.St} {H : Hp} {te : TE} {U : Addr} {qs : Qs} (h : Ev te σ H (PksP U qs)) (ok : ∀ q ∈ qs, ∀ x ∈ q.2.1 :: q.2.2, PyData.strOk x = true) : Ev (tOp (rEqD K) te (tLst tNil)) σ H (Dd (.bool (decide (qs = [])))) := by
  have e : decide (qs = []) = PyData.eqv (.list (qs.map pkD)) (.list []) := by
    rw [eqv_list_nil]
    cases qs <;> rfl
  rw [e]
  exact ev_eqD (B := Ls []) h (stb_pks _ _) (ev_lst (ds := []) ea_nil (by simp)) (fun _ _ p => dp_pks p) (fun _ _ p => dp_ls p) (shaped_pks ok) (by rfl)
section
variable {K : PySem.W.Frag} {c : SC} {B U : Addr} {Ln M s : List Str} {qs qsU : Qs} {n : Nat} {H : Hp} {a2 a4 a5 a6 a7 a8 a9 : Option V}
/-- all that were sent on have a next router -/
theorem ev_stuck (st : Sta c B Ln qs n H) (rn : Rnd c.R c.t c.o M s) (bt : Btw c.R M s Ln) (hU : H U = some (.lst (qsU.map fun q => V.ref q.1))) (hz : qsU.length ≤ 50000) (sub : ∀ q ∈ qsU, q ∈ qs ∧ Way c.R c.t c.o M s q.2 ∧ q.2.1 ≠ lastQ q) :
    Ev (tCB (rAll K) (tCons (tLc (iList K (tVar 3)) (gName 9) (tTest (tOp (rI0 fun i j => .bl (decide (j < i))) (tCB (rLenA K) (tCons (tVar 9) tNil)) (tC (.int 2)))) (tOp (rNeD K) (tCall spNow [] E0 (tCons (tVar 1) (tCons (tOp (rIxL K) (tVar 9) (tUn (rU fun i => .int (-i)) (tC (.int 1)))) (tCons (tOp (rIxL K) (tVar 9) (tC (.int 0))) tNil)))) (tTup tNil)) [9]) tNil))
      [some (.ref c.p), some (.ref c.S), a2, some (.ref U), a4, a5, a6, a7, a8, a9] H (Dd (.bool true)) := by
  refine ev_cb (Ps := [fun v H' => ∃ D, v = .ref D ∧ H D = none ∧ H' D = some (.lst ((qsU.filter fun q => decide ((2 : Int) < (((q.2.1 :: q.2.2).map PyData.str).length : Int))).map fun _ => V.bl true))]) (ea_cons (ev_lcA (fun q : Addr × Str × List Str => V.ref q.1) (fun q => decide ((2 : Int) < (((q.2.1 :: q.2.2).map PyData.str).length : Int))) (fun _ => V.bl true) ((ev_varX rfl : Ev (tVar 3) _ H (Ex (.ref U))).imp fun v H' s' e => ⟨U, e, s' _ _ hU⟩) hz (fun _ => rfl) fun q hq H1 s1 => ?_) (fun v Ha Hb s ⟨D, e, h0, h⟩ => ⟨D, e, h0, s _ _ h⟩) ea_nil) ?_
  · obtain ⟨h1, wy, hl⟩ := sub q hq
    have st1 := st.sm s1
    have hq1 := st1.q q h1
    obtain ⟨x, hx, xR⟩ := wy.last
    rw [lastQ_of hx] at hl
    refine ⟨et_test (ev_gt (ev_lenL (ev_var rfl (ls_str hq1) (stb_l _))) ev_int), fun e => ?_⟩
    have e' := of_decide_eq_true e
    rw [List.length_map, List.length_cons] at e'
    have hne := wy.goes rn bt (by omega) hx (Ne.symm hl)
    refine (ev_nnilT (ev_now st1 (ev_varX rfl) (ev_pl (ev_var rfl (ls_str hq1) (stb_l _)) hx) (ev_p0 (ev_var rfl (ls_str hq1) (stb_l _))) xR wy.1) (fun y hy => rn.ok y (rn.mixR Ln x _ y hy))).imp fun v _ _ p => ?_
    rw [decide_eq_false hne] at p
    exact rp_bl p
  · rintro vs H1 s1 ⟨v, r, rfl, ⟨D, rfl, _, hD⟩, rfl⟩ Q q
    refine ⟨D, (qsU.filter fun q => decide ((2 : Int) < (((q.2.1 :: q.2.2).map PyData.str).length : Int))).map fun _ => true, rfl, SqL.of (by rw [List.map_map]; exact hD), ?_⟩
    rw [all_map_true]
    exact q _ H1 (Same.refl _) (.bl true)
end
section
variable {P : Program} {w : World} {K : PySem.W.Frag} {mg : Str → Option Value} {base : Heap}
abbrev sDeed : Stmt := top 75
theorem scDeed : FnScope ["_law_pot_here", "_law_st", "_law_told", "_law_under", "_law_way", "_law_routers", "_law_packet", "_law_a", "_law_d", "_law_one"] ["_law_pot_here", "_law_st", "_law_told"] (defScope sDeed) := ⟨rfl, rfl, rfl, by decide +kernel, rfl, by decide +kernel, by decide +kernel⟩
def spDeed : Sp := fun vs H Q _ => ∃ (c : SC) (B : Addr) (Ln : List Str) (qs : Qs) (n : Nat) (v3 : V) (M s : List Str), vs = [.ref c.p, .ref c.S, v3] ∧ Rp H v3 (tupS s) ∧ Sta c B Ln qs n H ∧ n + 3 ≤ 10 ^ 15 ∧ Rnd c.R c.t c.o M s ∧ Btw c.R M s Ln ∧ (∀ q ∈ qs, Way c.R c.t c.o M s q.2) ∧ qs.length ≤ 900 ∧ Ln.length ≤ 40000 ∧
  ∀ H' Ln' qs', Sta c B Ln' qs' (n + 3) H' → Btw c.R M s Ln' → (∀ q ∈ qs', Way c.R c.t c.o M s q.2) → qs'.length ≤ qs.length + 1 → Ln'.length ≤ Ln.length + 1 → Q (.bl true) H'
theorem cal_deed (D : Std K mg "_law_deed" sDeed) (T : Gc mg) (C_law_take : Cal P w K mg base "_law_take" ["_law_pot_here", "_law_upto"] 1 spTake) (C_law_now : Cal P w K mg base "_law_now" ["_law_st", "_law_a", "_law_d"] 1 spNow) (C_law_of : Cal P w K mg base "_law_of" ["_law_pot_here", "_law_some"] 2 spOf) (C_law_gone_on : Cal P w K mg base "_law_gone_on" ["_law_pot_here", "_law_st", "_law_packet"] 3 spGoneOn) : Cal P w K mg base "_law_deed" ["_law_pot_here", "_law_st", "_law_told"] 4 spDeed := by
  refine D.cal scDeed (fun vs H Q E h => ?_) (fun _ _ _ _ _ _ us hl => match us, hl with | [_, _, _], _ => rfl) (fun f cdv A outer s H vs Q E hr h => ?_)
  · obtain ⟨c, B, Ln, qs, n, v3, M, s, rfl, _⟩ := h
    rfl
  · obtain ⟨c, B, Ln, qs, n, v2, M, s, rfl, h2, st, hn, rn, bt, wy, hqz, hlz, k⟩ := h
    have nd := scDeed.nd
    have hu := hu_of hr
    refine ⟨_, (pss_cons (ps_par (i := 4) (j := 5) rfl nd rfl rfl (by decide) rfl rfl (pa_cons (pe_cal C_law_take (hr.mono (by decide)) (pa_cons (pv 0) (pa_cons pe_int pa_nil))) (pa_cons (pe_dget hu (pv 1) pe_str (fun _ _ => rfl)) pa_nil)) (by rfl))
 (pss_cons (ps_setLc (i := 3) (own := [("_law_packet", 6)]) rfl nd rfl rfl (sw_true rfl rfl rfl (by decide +kernel)) (k_piL (K := K) (pe_dget hu (pv 1) pe_str (fun _ _ => rfl))) (blkOk_by (by kernel_rfl)) (fun _ _ _ _ _ => (pg_name (i := 6) nd rfl (Or.inl rfl))) (fun _ _ _ _ _ => (pts_one (pt_cmpR op_ne (pe_ix (k_ixL (K := K)) (pv 6) pe_int (fun _ _ => rfl)) (pe_ix (k_ixL (K := K)) (pv 6) (pe_un un_neg pe_int) (fun _ _ => rfl)) (nomark _)))) (fun _ _ _ _ _ => (pv 6)))
 (pss_cons (ps_if (pt_cmpR op_eq (pv 4) pe_int (nomark _)) (pss_one (ps_expr (k_append (K := K) (pe_dget hu (pv 1) pe_str (fun _ _ => rfl)) (pe_cal C_law_of (hr.mono (by decide)) (pa_cons (pv 0) (pa_cons (pv 2) pa_nil)))))) (pss_one (ps_if (PW.pt (pw_or (pt_cmpR op_eq (pv 4) pe_int (nomark _)) (pw_or1 (pt_cmpR (k_eqD (K := K) hr.units) (pv 3) (pe_lst pa_nil) (nomark _))))) (pss_cons (ps_par (i := 7) (j := 8) rfl nd rfl rfl (by decide) rfl rfl (pa_cons (pe_cal C_law_of (hr.mono (by decide)) (pa_cons (pv 0) (pa_cons (pv 5) pa_nil))) (pa_cons (pe_cal C_law_of (hr.mono (by decide)) (pa_cons (pv 0) (pa_cons (pv 5) pa_nil))) pa_nil)) (by rfl))
 (pss_one (ps_if (PW.pt (pw_and (pt_cmpR (k_neD (K := K) hr.units) (pv 7) (pv 8) (nomark _)) (pw_and1 (pt_cmpR (k_neD (K := K) hr.units) (pe_cal C_law_now (hr.mono (by decide)) (pa_cons (pv 1) (pa_cons (pv 7) (pa_cons (pv 8) pa_nil)))) (pe_tup pa_nil) (nomark _))))) (pss_one (ps_expr (k_append (K := K) (pe_dget hu (pv 1) pe_str (fun _ _ => rfl)) (pe_lst (pa_cons (pv 8) (pa_cons (pv 7) pa_nil)))))) pss_nil))) (pss_one (ps_ret (pe_cal C_law_gone_on (hr.mono (by decide)) (pa_cons (pv 0) (pa_cons (pv 1) (pa_cons (pe_cal C_law_of (hr.mono (by decide)) (pa_cons (pv 0) (pa_cons (pv 3) pa_nil))) pa_nil)))))))))
 (pss_one (ps_ret (pe_callB (k_all (K := K) rfl) (by rfl) T.b.all (by decide +kernel) (pa_cons (pe_lc (own := [("_law_one", 9)]) rfl nd (k_piL (K := K) (pv 3)) (blkOk_by (by kernel_rfl)) (fun _ _ _ _ _ => (pg_name (i := 9) nd rfl (Or.inl rfl))) (fun _ _ _ _ _ => (pts_one (pt_cmpR op_gt (pe_callB (k_len (K := K)) (by rfl) T.b.len (by decide +kernel) (pa_cons (pv 9) pa_nil)) pe_int (nomark _)))) (fun _ _ _ _ _ => (pe_cmpR (k_neD (K := K) hr.units) (pe_cal C_law_now (hr.mono (by decide)) (pa_cons (pv 1) (pa_cons (pe_ix (k_ixL (K := K)) (pv 9) (pe_un un_neg pe_int) (fun _ _ => rfl)) (pa_cons (pe_ix (k_ixL (K := K)) (pv 9) pe_int (fun _ _ => rfl)) pa_nil)))) (pe_tup pa_nil) (nomark _)))) pa_nil))))))), ?_⟩
    have r5 := rn.r5
    have Rne : c.R ≠ [] := fun z => by
      obtain ⟨x, hx⟩ := List.exists_mem_of_ne_nil _ rn.ne
      have := rn.sub x hx
      rw [z] at this
      cases this
    have wok : ∀ q ∈ qs, ∀ x ∈ q.2.1 :: q.2.2, PyData.strOk x = true := fun q hq x hx => by
      rcases List.mem_cons.mp hx with rfl | hx
      · exact rn.ok _ (wy q hq).1
      · exact rn.ok x ((wy q hq).all rn x hx)
    have undIn : ∀ q ∈ undQ qs, q ∈ qs ∧ Way c.R c.t c.o M s q.2 ∧ q.2.1 ≠ lastQ q := fun q hq => by
      obtain ⟨h1, h2⟩ := List.mem_filter.mp hq
      exact ⟨h1, wy q h1, by simpa using h2⟩
    have undL : (undQ qs).length ≤ qs.length := List.length_filter_le _ _
    -- way, routers
    refine s_parM (p := c.p) (m := n + 1) (A := Nl 4) (B := Dd (tupS c.R)) (ema_cons (em_take rfl (ev_int (i := 4)) (by decide) (by decide) st.pot (by omega)) (stp_nl _ _) fun H1 s1 hp1 => ema_cons (em_ev (ev_sR (st.smp s1 hp1) (ev_varX rfl)) hp1) (stp_d _ _) fun H2 s2 hp2 => ema_nil hp2) fun v4 v5 H1 s1 hp1 ⟨way, e4, w0, w1⟩ p5 => ?_
    subst e4
    refine nx_of ?_
    have st1 := st.smp s1 hp1
    have h21 := h2.up s1.t
    -- under
    refine s_set (P := fun v H' => ∃ U, v = .ref U ∧ H1 U = none ∧ H' U = some (.lst ((undQ qs).map fun q => V.ref q.1))) (ev_lcA (fun q : Addr × Str × List Str => V.ref q.1) (fun q => !decide (q.2.1 = lastQ q)) (fun q => V.ref q.1) ((ev_sP st1 (ev_varX rfl)).imp fun v H' s e => ⟨B, e, s _ _ st1.b⟩) (by omega) (fun _ => rfl) fun q hq H2 s2 => ⟨?_, fun _ => ev_varX rfl⟩) fun v3 H2 s2 ⟨U, e3, nU, hU⟩ => ?_
    · obtain ⟨x, hx, xR⟩ := (wy q hq).last
      have hq2 := (st1.sm s2).q q hq
      rw [lastQ_of hx]
      exact et_test (ev_neS (ev_p0 (ev_var rfl (ls_str hq2) (stb_l _))) (ev_pl (ev_var rfl (ls_str hq2) (stb_l _)) hx))
    subst e3
    refine nx_of ?_
    have st2 := st1.sm s2
    have h22 := h21.sm s2
    have p52 := Rp.sm p5 s2
    have nUx : ∀ {a u}, H1 a = some u → U ≠ a := fun e z => by rw [z, e] at nU; cases nU
    have nUp : U ≠ c.p := by
      obtain ⟨_, _, _, e, _⟩ := st1.pot
      exact nUx e
    have nUL : U ≠ c.L := nUx st1.l
    have nUB : U ≠ B := nUx st1.b
    refine s_if (b := decide (way = 0)) (et_test (ev_eqI (ev_varI rfl) ev_int)) (fun e H3 s3 => ?_) (fun e H3 s3 => ?_)
    · -- a router learns
      have st3 := st2.sm s3
      refine s_appendV (p := c.p) (m := n + 2) (Pd := StrIn s) st3.l (Ne.symm st3.pL) (ev_sL st3 (ev_varX rfl)) (fun H4 s4 => em_ofS (st3.sm s4).pot (ev_varX rfl) (ev_varD rfl ((h22.sm s3).sm s4)) rn.ne (by have := rn.s5; omega) (by omega)) (by rw [List.length_map]; omega) fun y H4 s4 hp4 ⟨y', ey, hy⟩ => ?_
      subst ey
      refine nx_of ?_
      have st4 := (st3.smp s4 hp4).learn (ys := [y'])
      have eH : Ln.map V.str ++ [V.str y'] = (Ln ++ [y']).map V.str := by rw [List.map_append] <;> rfl
      rw [eH]
      have hU4 : (upd H4 c.L (.lst ((Ln ++ [y']).map V.str))) U = some (.lst ((undQ qs).map fun q => V.ref q.1)) := by
        rw [upd_ne nUL]
        exact s4.x _ _ nUp (s3 _ _ hU)
      have bt4 := bt.add rn.sub (ys := [y']) fun z hz => by rw [List.mem_singleton.mp hz]; exact hy
      refine s_ret (ev_stuck st4 rn bt4 hU4 (by omega) undIn) fun v H5 s5 p5 => ?_
      rw [rp_bl p5]
      exact k H5 _ _ ((st4.sm s5).mono (by omega)) bt4 wy (by omega) (by simp)
    · have st3 := st2.sm s3
      have hU3 := s3 _ _ hU
      have hpk : PksP U (undQ qs) (.ref U) H3 := ⟨rfl, hU3, fun q hq => st3.q q (undIn q hq).1⟩
      refine s_if (b := decide (way = 1) || decide (undQ qs = [])) (et_or (et_test (ev_eqI (ev_varI rfl) ev_int)) fun _ => et_test (ev_noPk (ev_var rfl hpk (stb_pks _ _)) fun q hq => wok q (undIn q hq).1)) (fun e H4 s4 => ?_) (fun e H4 s4 => ?_)
      · -- a packet is sent
        have st4 := st3.sm s4
        have p54 := (Rp.sm p52 s3).sm s4
        have hU4 := s4 _ _ hU3
        refine s_parM (p := c.p) (m := n + 3) (A := StrIn c.R) (B := StrIn c.R) (ema_cons (em_ofS st4.pot (ev_varX rfl) (ev_varD rfl p54) Rne (by omega) (by omega)) (fun _ _ _ _ h => h) fun H5 s5 hp5 => ema_cons (em_ofS hp5 (ev_varX rfl) (ev_varD rfl (Rp.up p54 s5.t)) Rne (by omega) (by omega)) (fun _ _ _ _ h => h) fun H6 s6 hp6 => ema_nil (hp6.mono (by omega))) fun v7 v8 H5 s5 hp5 ⟨a, e7, aR⟩ ⟨d, e8, dR⟩ => ?_
        subst e7 e8
        refine nx_of ?_
        have st5 := st4.smp s5 hp5
        have hU5 := s5.x _ _ nUp hU4
        refine s_if (b := !decide (a = d) && !decide (mixF c.t c.o Ln a d = [])) (et_and (et_test (ev_neSD (ev_varS rfl) (ev_varS rfl) (rn.ok a aR) (rn.ok d dR))) fun _ => et_test (ev_nnilT (ev_now st5 (ev_varX rfl) (ev_varS rfl) (ev_varS rfl) aR dR) fun y hy => rn.ok y (rn.mixR Ln a d y hy))) (fun e6 H6 s6 => ?_) (fun e6 H6 s6 => ?_)
        · obtain ⟨f1, f2⟩ := Bool.and_eq_true_iff.mp e6
          have had : a ≠ d := by simpa using f1
          have st6 := st5.sm s6
          have hU6 := s6 _ _ hU5
          refine s_appendV (p := c.p) (m := n + 3) (Pd := fun v H' => ∃ A, v = .ref A ∧ H6 A = none ∧ H' A = some (.lst [.str d, .str a])) st6.b (Ne.symm st6.pB) (ev_sP st6 (ev_varX rfl)) (fun H7 s7 => em_ev ((ev_new2 rfl rfl).imp fun v H8 s8 ⟨A, e, nA, hA⟩ => ⟨A, e, none_of s7 nA, hA⟩) (st6.sm s7).pot) (by rw [List.length_map]; omega) fun y H7 s7 hp7 ⟨A, ey, nA, hA⟩ => ?_
          subst ey
          refine nx_of ?_
          have nAx : ∀ {b u}, H6 b = some u → A ≠ b := fun e z => by rw [z, e] at nA; cases nA
          have nAp : A ≠ c.p := by
            obtain ⟨_, _, _, e, _⟩ := st6.pot
            exact nAx e
          have nA0 : c.H0 A = none := by
            cases e0 : c.H0 A with
            | none => rfl
            | some u => rw [st6.fr.x A u nAp e0] at nA; cases nA
          have st7 := (st6.smp s7 hp7).send (A := A) (d := d) (ws := [a]) hA nA0 (nAx st6.l) (fun q hq => Ne.symm (nAx (st6.q q hq)))
          have hU7 : (upd H7 B (.lst ((qs.map fun q => V.ref q.1) ++ [.ref A]))) U = some (.lst ((undQ qs).map fun q => V.ref q.1)) := by
            rw [upd_ne nUB]
            exact s7.x _ _ nUp hU6
          have wy7 : ∀ q ∈ qs ++ [(A, d, [a])], Way c.R c.t c.o M s q.2 := fun q hq => by
            rcases List.mem_append.mp hq with hq | hq
            · exact wy q hq
            · rw [List.mem_singleton.mp hq]
              exact ⟨dR, .one aR had⟩
          refine s_ret (ev_stuck st7 rn bt hU7 (by omega) fun q hq => ⟨List.mem_append_left _ (undIn q hq).1, (undIn q hq).2⟩) fun v H8 s8 p8 => ?_
          rw [rp_bl p8]
          exact k H8 _ _ (st7.sm s8) bt wy7 (by simp) (by omega)
        · refine nx_of ?_
          have st6 := st5.sm s6
          refine s_ret (ev_stuck st6 rn bt (s6 _ _ hU5) (by omega) undIn) fun v H8 s8 p8 => ?_
          rw [rp_bl p8]
          exact k H8 _ _ (st6.sm s8) bt wy (by omega) (by omega)
      · -- a packet goes on
        have st4 := st3.sm s4
        have hU4 := s4 _ _ hU3
        have hne : undQ qs ≠ [] := fun z => by
          rw [z] at e
          simp at e
        refine s_retC (p := c.p) (m := n + 2) (Ps := [Ex (.ref c.p), Ex (.ref c.S), fun v _ => v ∈ (undQ qs).map fun q : Addr × Str × List Str => V.ref q.1]) (ema_cons (em_ev (ev_varX rfl) st4.pot) (stp_x _ _) fun H5 s5 hp5 => ema_cons (em_ev (ev_varX rfl) hp5) (stp_x _ _) fun H6 s6 hp6 => ema_cons (em_ofV (U := U) (xs := (undQ qs).map fun q : Addr × Str × List Str => V.ref q.1) (ema_ev (ea_x (ev_varX rfl) (ea_cons (P := fun v H' => v = .ref U ∧ SeqA U ((undQ qs).map fun q : Addr × Str × List Str => V.ref q.1) H') (ev_var rfl ⟨rfl, .inl (s6.x _ _ nUp (s5.x _ _ nUp hU4))⟩ (stb_seq _ _)) (stb_seq _ _) ea_nil)) hp6) nUp (fun z => hne (List.map_eq_nil_iff.mp z)) (by rw [List.length_map]; omega) (by omega)) (fun _ _ _ _ h => h) fun H7 s7 hp7 => ema_nil hp7) ?_
        rintro vs H5 s5 hp5 ⟨v, r, rfl, q1, u, r2, rfl, q2, u3, r3, rfl, q3, rfl⟩
        obtain rfl : v = .ref c.p := q1
        obtain rfl : u = .ref c.S := q2
        obtain ⟨⟨A, d, ws⟩, hq, rfl⟩ := List.mem_map.mp q3
        obtain ⟨g1, g2, g3⟩ := undIn _ hq
        obtain ⟨x, hx, xR⟩ := g2.last
        rw [lastQ_of hx] at g3
        have st5 := st4.smp s5 hp5
        refine ⟨c, B, Ln, qs, n + 2, A, d, x, ws, M, s, rfl, st5, by omega, g1, rn, bt, g2, hx, Ne.symm g3, fun _ H6 s6 => k H6 _ _ ((st5.sm s6).mono (by omega)) bt wy (by omega) (by omega), fun y H6 hy w6 st6 _ => k H6 _ _ (st6.mono (by omega)) bt (fun q hq => ?_) (by rw [setQ_len]; omega) (by omega)⟩
        rcases setQ_mem hq with ⟨z1, _⟩ | ⟨q0, z1, z2, rfl⟩
        · exact wy q z1
        · have := nd_at st.nd z1 g1 z2
          subst this
          exact w6
end
end Qt
/-! QLq: _law_ended. -/
namespace Qt
open PySem PySem.Spec PyProof.Rows L2
section
variable {K : PySem.W.Frag} {σ : L2.St} {H : Hp} {tl to te : TE} {as : TA} {g : TG} {tb tu tw : TS} {D : Ends} {sp : Sp} {Ps : List VP}
theorem s_forV {a : Addr} {xs : List V} (h : Ev tl σ H (fun v H' => v = .ref a ∧ H' a = some (.lst xs))) (Pv : Nat → L2.St → Hp → Prop) (h0 : ∀ H1, Same H H1 → Pv 0 σ H1) (hl : ∀ i σ' H', Pv i σ' H' → H' a = some (.lst xs))
    (turn : ∀ i x σ' H', xs[i]? = some x → Pv i σ' H' → g x σ' H' fun σ2 H2 => tb { D with nx := Pv (i + 1), ct := Pv (i + 1), bk := D.nx } σ2 H2) (done : ∀ σ' H', Pv xs.length σ' H' → D.nx σ' H') : tFor (iList K tl) g tb D σ H := h H (Same.refl _) _ fun v H1 s1 ⟨e, ha⟩ => by
  subst e
  exact ⟨a, rfl, ⟨xs, SqL.of ha⟩, for_list Pv (h0 H1 s1) (fun i σ H _ p => SqL.of (hl i σ H p)) turn done⟩
/-- if not f(..): a call that gives True -/
theorem s_ifNotC (G : Hp → Prop) (ha : EvA as σ H Ps) (q : ∀ vs H1, Same H H1 → AllP Ps vs H1 → ∀ Q : VK, (∀ H2, G H2 → Q (.bl true) H2) → sp vs H1 Q E0) (k : ∀ H2, G H2 → tw D σ H2) : tIfS (tNot (tTest (tCall sp [] E0 as))) tu tw D σ H := ha H (Same.refl _) _ fun vs H1 s p => by
  rw [List.append_nil]
  exact q vs H1 s p _ fun H2 g2 => ⟨true, rfl, k H2 g2⟩
theorem s_extT {A b : Addr} {xs ys : List V} (hA : H A = some (.lst xs)) (hL : Ev to σ H (Ex (.ref A))) (he : Ev te σ H (fun v H' => v = .ref b ∧ H' b = some (.tup ys))) (hz : xs.length + ys.length ≤ 50000) (q : ∀ H1, Same H H1 → D.nx σ (upd H1 A (.lst (xs ++ ys)))) : tDrop (tBM K "list" (rExtendT K) to (tCons te tNil)) D σ H := hL H (Same.refl _) _ fun v H1 s1 p1 => by
  obtain rfl : v = .ref A := p1
  refine ⟨.inl ⟨rfl, _, SqL.of (s1 _ _ hA)⟩, he H1 s1 _ fun u H2 s2 ⟨e, hb⟩ => ?_⟩
  subst e
  exact ⟨A, b, xs, ys, rfl, rfl, s2 _ _ (s1 _ _ hA), SqT.of hb, Nat.le_trans hz (by decide), q H2 (s1.trans s2)⟩
end
theorem s_dputR {σ : L2.St} {H : Hp} {td tv : TE} {D : Ends} {S : Addr} {kvs : List (Key × V)} {k : Str} {A : VP} (hv : Ev tv σ H A) (sa : Stb A) (hd : Ev td σ H (Ex (.ref S))) (hS : H S = some (.dK kvs)) (hz : kvs.length < sizeLine) (q : ∀ v H1, Same H H1 → A v H1 → D.nx σ (upd H1 S (.dK (putK kvs (sk k) v)))) : sDPut td (tC (.str k)) tv D σ H := hv H (Same.refl _) _ fun v H1 s1 p1 => hd H1 s1 _ fun x H2 s2 p2 =>
  ⟨S, _, p2, DPut.k (k := sk k) ((s1.trans s2) _ _ hS) hz, q v H2 (s1.trans s2) (sa _ _ _ s2 p1)⟩
theorem fst_ref {qs qs' : Qs} (h : qs'.map (·.1) = qs.map (·.1)) : (qs'.map fun q : Addr × Str × List Str => V.ref q.1) = qs.map fun q => V.ref q.1 := by
  have h := congrArg (List.map V.ref) h
  rw [List.map_map, List.map_map] at h
  exact h
section
variable {P : Program} {w : World} {K : PySem.W.Frag} {mg : Str → Option Value} {base : Heap}
abbrev sEnded : Stmt := top 76
theorem scEnded : FnScope ["_law_pot_here", "_law_st", "_law_told", "_law_packet", "_law_hop"] ["_law_pot_here", "_law_st", "_law_told"] (defScope sEnded) := ⟨rfl, rfl, rfl, by decide +kernel, rfl, by decide +kernel, by decide +kernel⟩
def spEnded : Sp := fun vs H Q _ => ∃ (c : SC) (B : Addr) (Ln : List Str) (qs : Qs) (n : Nat) (v3 : V) (M s : List Str), vs = [.ref c.p, .ref c.S, v3] ∧ Rp H v3 (tupS s) ∧ Sta c B Ln qs n H ∧ n + 5 * qs.length ≤ 10 ^ 15 ∧ Rnd c.R c.t c.o M s ∧ Btw c.R M s Ln ∧ (∀ q ∈ qs, Way c.R c.t c.o M s q.2) ∧ Ln.length ≤ 40000 ∧
  ∀ H' B', Sta c B' (Ln ++ s) [] (n + 5 * qs.length) H' → Q (.bl true) H'
theorem cal_ended (D : Std K mg "_law_ended" sEnded) (T : Gc mg) (C_law_now : Cal P w K mg base "_law_now" ["_law_st", "_law_a", "_law_d"] 1 spNow) (C_law_gone_on : Cal P w K mg base "_law_gone_on" ["_law_pot_here", "_law_st", "_law_packet"] 3 spGoneOn) : Cal P w K mg base "_law_ended" ["_law_pot_here", "_law_st", "_law_told"] 4 spEnded := by
  refine D.cal scEnded (fun vs H Q E h => ?_) (fun _ _ _ _ _ _ us hl => match us, hl with | [_, _, _], _ => rfl) (fun f cdv A outer s H vs Q E hr h => ?_)
  · obtain ⟨c, B, Ln, qs, n, v3, M, s, rfl, _⟩ := h
    rfl
  · obtain ⟨c, B, Ln, qs, n, v2, M, s, rfl, h2, st, hn, rn, bt, wy, hlz, k⟩ := h
    have nd := scEnded.nd
    have hu := hu_of hr
    refine ⟨_, (pss_cons (ps_expr (k_extendT (K := K) (pe_dget hu (pv 1) pe_str (fun _ _ => rfl)) (pv 2)))
 (pss_cons (ps_for PassesOwn.never rfl (k_piL (K := K) (pe_dget hu (pv 1) pe_str (fun _ _ => rfl))) (pg_name (i := 3) nd rfl (Or.inl rfl))
 (pss_cons (ps_for PassesOwn.never rfl (k_piT (K := K) (pe_dget hu (pv 1) pe_str (fun _ _ => rfl))) (pg_name (i := 4) nd rfl (Or.inl rfl))
 (pss_one (ps_if (PW.pt (pw_and (pt_cmpR op_ne (pe_ix (k_ixL (K := K)) (pv 3) pe_int (fun _ _ => rfl)) (pe_ix (k_ixL (K := K)) (pv 3) (pe_un un_neg pe_int) (fun _ _ => rfl)) (nomark _)) (pw_and1 (pt_cmpR (k_neD (K := K) hr.units) (pe_cal C_law_now (hr.mono (by decide)) (pa_cons (pv 1) (pa_cons (pe_ix (k_ixL (K := K)) (pv 3) (pe_un un_neg pe_int) (fun _ _ => rfl)) (pa_cons (pe_ix (k_ixL (K := K)) (pv 3) pe_int (fun _ _ => rfl)) pa_nil)))) (pe_tup pa_nil) (nomark _))))) (pss_one (ps_if (pt_not (pt_val (pe_cal C_law_gone_on (hr.mono (by decide)) (pa_cons (pv 0) (pa_cons (pv 1) (pa_cons (pv 3) pa_nil)))))) (pss_one (ps_ret pe_bl)) pss_nil)) pss_nil)))
 (pss_one (ps_if (PW.pt (pw_and (pt_cmpR op_ne (pe_ix (k_ixL (K := K)) (pv 3) pe_int (fun _ _ => rfl)) (pe_ix (k_ixL (K := K)) (pv 3) (pe_un un_neg pe_int) (fun _ _ => rfl)) (nomark _)) (pw_and1 (pt_cmpR op_gt (pe_callB (k_len (K := K)) (by rfl) T.b.len (by decide +kernel) (pa_cons (pv 3) pa_nil)) pe_int (nomark _))))) (pss_one (ps_ret pe_bl)) pss_nil))))
 (pss_cons (ps_dput hu (pv 1) pe_str (pe_lst pa_nil) rfl)
 (pss_one (ps_ret pe_bl))))), ?_⟩
    have r5 := rn.r5
    have s5 := rn.s5
    obtain ⟨b2, e2, h2b⟩ := rp_tupS h2
    -- all learn
    refine s_extT (A := c.L) (b := b2) (ys := s.map V.str) st.l (ev_sL st (ev_varX rfl)) (ev_var rfl ⟨e2, h2b⟩ fun v Ha Hb s ⟨e, h⟩ => ⟨e, s _ _ h⟩) (by rw [List.length_map, List.length_map]; omega) fun H1 s1 => ?_
    refine nx_of ?_
    have st1 := (st.sm s1).learn (ys := s)
    have eH : Ln.map V.str ++ s.map V.str = (Ln ++ s).map V.str := by rw [List.map_append]
    rw [eH]
    have bt1 := bt.add rn.sub (ys := s) fun z hz => hz
    generalize Ln ++ s = Ln1 at st1 bt1 k
    generalize upd H1 c.L (.lst (Ln1.map V.str)) = H2 at st1
    -- for packet
    refine s_forV (a := B) (xs := qs.map fun q => V.ref q.1) ((ev_sP st1 (ev_varX rfl)).imp fun v H' s e => ⟨e, s _ _ st1.b⟩) (fun i σ' H' => ∃ a3 a4 qs', σ' = [some (.ref c.p), some (.ref c.S), some v2, a3, a4] ∧ Sta c B Ln1 qs' (n + 5 * i) H' ∧ qs'.map (·.1) = qs.map (·.1) ∧ ∀ q ∈ qs', Way c.R c.t c.o M s q.2)
      (fun H3 s3 => ⟨_, _, qs, rfl, st1.sm s3, rfl, wy⟩) (fun i σ' H' ⟨a3, a4, qs', _, st', ef, _⟩ => by rw [← fst_ref ef]; exact st'.b) ?_ ?_
    · rintro i x0 σ' H' hi ⟨a3, a4, qs', rfl, st', ef, wy'⟩
      have hil : i < qs.length := by
        rw [← List.length_map (fun q : Addr × Str × List Str => V.ref q.1)]
        exact (List.getElem?_eq_some_iff.mp hi).1
      rw [← fst_ref ef, List.getElem?_map] at hi
      cases hk : qs'[i]? with
      | none => rw [hk] at hi; cases hi
      | some q0 =>
        rw [hk] at hi
        cases hi
        obtain ⟨A, d, ws⟩ := q0
        have hA := List.mem_of_getElem? hk
        -- for hop
        refine s_forT (ev_sR st' (ev_varX rfl)) (fun H3 j σ'' H'' => ∃ a4 qs'' ws', σ'' = [some (.ref c.p), some (.ref c.S), some v2, some (.ref A), a4] ∧ Tk H3 H'' ∧ Sta c B Ln1 qs'' (n + 5 * i + j) H'' ∧ qs''.map (·.1) = qs.map (·.1) ∧ (∀ q ∈ qs'', Way c.R c.t c.o M s q.2) ∧ (A, d, ws') ∈ qs'' ∧ (ws'.getLast? = some d ∨ ws'.length ≤ 1 ∧ (∃ x, ws'.getLast? = some x ∧ mixF c.t c.o Ln1 x d = []) ∨ 1 + j ≤ ws'.length))
          (fun H3 s3 => ⟨_, qs', ws, rfl, tk_same (Same.refl _), st'.sm s3, ef, wy', hA, .inr (.inr (by
            have := List.length_pos_iff.mpr (wy' _ hA).2.ne
            exact this))⟩) (fun H3 j σ'' H'' s3 ⟨_, _, _, _, t, _⟩ => t) ?_ ?_
        · rintro H3 j d0 v0 σ'' H'' s3 hj ⟨a4, qs'', ws', rfl, t3, st3, ef3, wy3, hA3, inv⟩ rv
          have wA := wy3 _ hA3
          obtain ⟨x, hx, xR⟩ := wA.last
          have dR : d ∈ c.R := wA.1
          have hx : ws'.getLast? = some x := hx
          have hq3 := st3.q _ hA3
          have jl : j < c.R.length := by
            rw [← List.length_map PyData.str]
            exact (List.getElem?_eq_some_iff.mp hj).1
          refine s_if (b := !decide (d = x) && !decide (mixF c.t c.o Ln1 x d = [])) (et_and (et_test (ev_neS (ev_p0 (ev_var rfl (ls_str hq3) (stb_l _))) (ev_pl (ev_var rfl (ls_str hq3) (stb_l _)) hx))) fun _ => et_test (ev_nnilT (ev_now st3 (ev_varX rfl) (ev_pl (ev_var rfl (ls_str hq3) (stb_l _)) hx) (ev_p0 (ev_var rfl (ls_str hq3) (stb_l _))) xR dR) fun y hy => rn.ok y (rn.mixR Ln1 x d y hy))) (fun e H4 s4 => ?_) (fun e H4 s4 => ?_)
          · obtain ⟨f1, f2⟩ := Bool.and_eq_true_iff.mp e
            have hdx : d ≠ x := by simpa using f1
            have hne : mixF c.t c.o Ln1 x d ≠ [] := by simpa using f2
            have st4 := st3.sm s4
            have len3 : 1 + j ≤ ws'.length := by
              rcases inv with h | ⟨_, y, h, h'⟩ | h
              · rw [hx] at h
                exact absurd (Option.some.inj h).symm hdx
              · rw [hx] at h
                rw [← Option.some.inj h] at h'
                exact absurd h' hne
              · exact h
            refine s_ifNotC (fun H5 => ∃ y, Way c.R c.t c.o M s (d, ws' ++ [y]) ∧ Sta c B Ln1 (setQ qs'' A (ws' ++ [y])) (n + 5 * i + j + 1) H5 ∧ Tk H4 H5) (Ps := [Ex (.ref c.p), Ex (.ref c.S), Ex (.ref A)]) (ea_x (ev_varX rfl) (ea_x (ev_varX rfl) (ea_x (ev_varX rfl) ea_nil))) ?_ fun H5 ⟨y, w5, st5, t5⟩ => ?_
            · rintro vs H5 s5 ⟨v, r, rfl, rfl, u, r2, rfl, rfl, u3, r3, rfl, rfl, rfl⟩ Q q
              exact ⟨c, B, Ln1, qs'', n + 5 * i + j, A, d, x, ws', M, s, rfl, st4.sm s5, by omega, hA3, rn, bt1, wA, hx, Ne.symm hdx, fun z => absurd z hne, fun y H6 hy w6 st6 t6 => q H6 ⟨y, w6, st6, (tk_same s5).trans t6⟩⟩
            · refine (show ∃ a4 qs'' ws', _ ∧ Tk H3 H5 ∧ Sta c B Ln1 qs'' (n + 5 * i + (j + 1)) H5 ∧ _ ∧ _ ∧ _ from ⟨_, _, ws' ++ [y], rfl, (t3.trans (tk_same s4)).trans t5, st5, by rw [setQ_fst]; exact ef3, fun q hq => ?_, List.mem_map.mpr ⟨_, hA3, by rw [if_pos rfl]⟩, .inr (.inr (by rw [List.length_append, List.length_singleton]; omega))⟩)
              rcases setQ_mem hq with ⟨z1, _⟩ | ⟨q0, z1, z2, rfl⟩
              · exact wy3 q z1
              · have := nd_at st3.nd z1 hA3 z2
                subst this
                exact w5
          · refine (show ∃ a4 qs'' ws', _ ∧ Tk H3 H4 ∧ Sta c B Ln1 qs'' (n + 5 * i + (j + 1)) H4 ∧ _ ∧ _ ∧ _ from ⟨_, qs'', ws', rfl, t3.trans (tk_same s4), (st3.sm s4).mono (by omega), ef3, wy3, hA3, ?_⟩)
            by_cases hdx : d = x
            · exact .inl (by rw [hx, hdx])
            · have hm : mixF c.t c.o Ln1 x d = [] := by
                simpa [hdx] using e
              refine .inr (.inl ⟨?_, x, hx, hm⟩)
              refine Nat.le_of_not_lt fun z => ?_
              exact wA.goes rn bt1 z hx (Ne.symm hdx) hm
        · rintro H3 σ'' H'' s3 ⟨a4, qs'', ws', rfl, t3, st3, ef3, wy3, hA3, inv⟩
          rw [List.length_map] at st3 inv
          have wA := wy3 _ hA3
          obtain ⟨x, hx, xR⟩ := wA.last
          have hx : ws'.getLast? = some x := hx
          have hq3 := st3.q _ hA3
          have wl : ws'.length ≤ c.R.length := wA.len rn
          refine nx_of ?_
          refine s_if (b := false) (et_is (et_and (et_test (ev_neS (ev_p0 (ev_var rfl (ls_str hq3) (stb_l _))) (ev_pl (ev_var rfl (ls_str hq3) (stb_l _)) hx))) fun _ => et_test (ev_gt (ev_lenL (ev_var rfl (ls_str hq3) (stb_l _))) ev_int)) ?_) (fun e => by cases e) fun _ H4 s4 => ?_
          · rcases inv with h | ⟨h, _⟩ | h
            · rw [hx] at h
              rw [Option.some.inj h]
              simp
            · have el : (((A, d, ws').2.1 :: (A, d, ws').2.2).map PyData.str).length = ws'.length + 1 := by simp
              rw [el, decide_eq_false (show ¬ (2 : Int) < ((ws'.length + 1 : Nat) : Int) by omega), Bool.and_false]
            · omega
          · exact (show ∃ a3 a4 qs', _ ∧ Sta c B Ln1 qs' (n + 5 * (i + 1)) H4 ∧ _ ∧ _ from ⟨_, _, qs'', rfl, (st3.sm s4).mono (by omega), ef3, wy3⟩)
    · rintro σ' H' ⟨a3, a4, qs', rfl, st', ef, wy'⟩
      rw [List.length_map] at st'
      refine nx_of ?_
      refine s_dputR (k := "packets") (ev_lst0 (H := H')) (fun v Ha Hb s ⟨B', e, nB, hb⟩ => ⟨B', e, nB, stb_l _ _ _ _ s hb⟩) (ev_varX rfl) st'.s (by show 5 < sizeLine; decide) fun vb H3 s3 ⟨B', e, nB, hb⟩ => ?_
      subst e
      have st3 := st'.sm s3
      have hB' : H3 B' = some (.lst []) := by
        obtain ⟨a, xs, e, h1, h2⟩ := hb
        cases e
        cases h2
        exact h1
      have nB0 : c.H0 B' = none := by
        cases e0 : c.H0 B' with
        | none => rfl
        | some u =>
          have nBp : B' ≠ c.p := fun z => by
            obtain ⟨_, _, _, e, _⟩ := st'.pot
            rw [← z, nB] at e
            cases e
          rw [st'.fr.x B' u nBp e0] at nB
          cases nB
      have nBL : c.L ≠ B' := fun z => by
        have e := st'.l
        rw [z, nB] at e
        cases e
      rw [stK_put]
      have st4 := st3.reset hB' nB0 nBL
      refine nx_of ?_
      refine s_ret ev_bl fun v H5 s5 p5 => ?_
      rw [rp_bl p5]
      exact k H5 B' (st4.sm s5)
end
end Qt
/-! QLr: _law_fine. -/
namespace Qt
open PySem PySem.Spec PyProof.Rows L2
theorem asc_eq : ∀ {xs ys : List Str}, xs.Pairwise Lt → ys.Pairwise Lt → (∀ z, z ∈ xs ↔ z ∈ ys) → xs = ys
  | [], [], _, _, _ => rfl
  | [], y :: ys, _, _, h => absurd ((h y).mpr List.mem_cons_self) (by simp)
  | x :: xs, [], _, _, h => absurd ((h x).mp List.mem_cons_self) (by simp)
  | x :: xs, y :: ys, h1, h2, h => by
    obtain ⟨a1, a2⟩ := List.pairwise_cons.mp h1
    obtain ⟨b1, b2⟩ := List.pairwise_cons.mp h2
    have e : x = y := by
      rcases List.mem_cons.mp ((h x).mp List.mem_cons_self) with e | hx
      · exact e
      · rcases List.mem_cons.mp ((h y).mpr List.mem_cons_self) with e | hy
        · exact e.symm
        · exact absurd (lt_trans (b1 x hx) (a1 y hy)) (lt_irrefl y)
    subst e
    rw [asc_eq a2 b2 fun z => ?_]
    constructor
    · intro hz
      rcases List.mem_cons.mp ((h z).mp (List.mem_cons_of_mem _ hz)) with e | k
      · subst e
        exact absurd (a1 z hz) (lt_irrefl z)
      · exact k
    · intro hz
      rcases List.mem_cons.mp ((h z).mpr (List.mem_cons_of_mem _ hz)) with e | k
      · subst e
        exact absurd (b1 z hz) (lt_irrefl z)
      · exact k
theorem lt_nodup {xs : List Str} (h : xs.Pairwise Lt) : xs.Nodup := List.Pairwise.imp (R := Lt) (S := fun a b => a ≠ b) (fun {a b} h (z : a = b) => lt_irrefl b (z ▸ h)) h
section
variable {K : PySem.W.Frag} {c : SC} {B : Addr} {Ln M s : List Str} {n : Nat} {H : Hp} {v1 v3 v4 v5 v6 v7 v8 : V} {a9 : Option V} {Q : VK}
/-- thirty deeds -/
theorem deeds (st : Sta c B Ln [] n H) (hn : n + 90 ≤ 10 ^ 15) (rn : Rnd c.R c.t c.o M s) (bt : Btw c.R M s Ln) (hz : Ln.length ≤ 39000) (h3 : Rp H v3 (tupS s))
    (k : ∀ D H' Ln' qs', H' D = some (.lst (List.replicate 30 (.bl true))) → Sta c B Ln' qs' (n + 90) H' → Btw c.R M s Ln' → (∀ q ∈ qs', Way c.R c.t c.o M s q.2) → qs'.length ≤ 30 → Ln'.length ≤ Ln.length + 30 → Tk H H' → Q (.ref D) H') :
    tLc (iRng1 (tCons (tC (.int 30)) tNil)) (gName 9) tYes (tCall spDeed [] E0 (tCons (tVar 0) (tCons (tVar 2) (tCons (tVar 3) tNil)))) [9] [some (.ref c.p), some v1, some (.ref c.S), some v3, some v4, some v5, some v6, some v7, some v8, a9] H Q := by
  refine ⟨30, rfl, by omega, by omega, fun D hD => ?_⟩
  have nDx : ∀ {a u}, H a = some u → D ≠ a := fun e z => by rw [z, e] at hD; cases hD
  have Dp : D ≠ c.p := by
    obtain ⟨_, _, _, e, _⟩ := st.pot
    exact nDx e
  have DL := nDx st.l
  have DB := nDx st.b
  have DS := nDx st.s
  have D0 : c.H0 D = none := by
    cases e0 : c.H0 D with
    | none => rfl
    | some u => rw [st.fr.x D u Dp e0] at hD; cases hD
  have s0 : Same H (upd H D (.lst [])) := same_new hD
  refine lc_range (fun i H' => ∃ Ln' qs', H' D = some (.lst (List.replicate i (.bl true))) ∧ Sta c B Ln' qs' (n + 3 * i) H' ∧ Btw c.R M s Ln' ∧ (∀ q ∈ qs', Way c.R c.t c.o M s q.2) ∧ qs'.length ≤ i ∧ Ln'.length ≤ Ln.length + i ∧ Tk H H') ⟨Ln, [], upd_same, st.sm s0, bt, (fun q hq => by cases hq), Nat.le_refl _, Nat.le_refl _, tk_same s0⟩ (fun i H' hi p => ⟨rfl, ?_⟩) (fun H' p => ?_)
  · obtain ⟨Ln', qs', q1, q2, q3, q4, q5, q6, q7⟩ := p
    have hi : i < 30 := hi
    refine ⟨_, rfl, _, rfl, _, rfl, ?_⟩
    refine ⟨c.at_ B qs' H', B, Ln', qs', n + 3 * i, v3, M, s, rfl, h3.up q7, q2.rebase, by omega, rn, q3, q4, by omega, by omega, fun H2 Ln2 qs2 st2 bt2 wy2 l1 l2 => ?_⟩
    obtain ⟨st3, keep, t3⟩ := q2.back st2
    have Dq : ∀ q ∈ qs', D ≠ q.1 := fun q hq z => by
      have e := q2.q q hq
      rw [← z, q1] at e
      cases i <;> simp [List.replicate_succ] at e
    have e2 : H2 D = some (.lst (List.replicate i (.bl true))) := keep D _ Dp (fun z => by
      rcases List.mem_cons.mp z with z | z
      · exact DS z
      rcases List.mem_cons.mp z with z | z
      · exact DL z
      rcases List.mem_cons.mp z with z | z
      · exact DB z
      obtain ⟨q, hq, e⟩ := List.mem_map.mp z
      exact Dq q hq e.symm) q1
    have Dq2 : ∀ q ∈ qs2, q.1 ≠ D := fun q hq z => by
      have e := st3.q q hq
      rw [z, e2] at e
      cases i <;> simp [List.replicate_succ] at e
    have tD : Tk H2 (upd H2 D (.lst (List.replicate i (.bl true) ++ [.bl true]))) := tk_upd fun xs z => by rw [e2] at z; cases z
    refine ⟨_, e2, ?_, Ln2, qs2, ?_, (st3.updD e2 D0 Dp DL DB Dq2).mono (by omega), bt2, wy2, by omega, by omega, (q7.trans t3).trans tD⟩
    · rw [List.length_replicate]
      exact Nat.lt_of_lt_of_le (show i < 1000 by omega) (by decide)
    · rw [List.replicate_succ']
      exact upd_same
  · obtain ⟨Ln', qs', q1, q2, q3, q4, q5, q6, q7⟩ := p
    exact k D H' Ln' qs' q1 q2 q3 q4 q5 q6 q7
end
section
variable {K : PySem.W.Frag} {σ : L2.St} {H : Hp} {tl : TE} {as : TA} {sp : Sp} {tu tw : TS} {D : Ends}
theorem s_ifRow (G G2 : Hp → Prop) (h : ∀ Q : VK, (∀ D H1, H1 D = some (.lst (List.replicate 30 (.bl true))) → G H1 → Q (.ref D) H1) → tl σ H Q) (h2 : ∀ H1, G H1 → ∀ Q : VK, (∀ H2, G2 H2 → Q (.bl true) H2) → tCall sp [] E0 as σ H1 Q) (k : ∀ H2, G2 H2 → tw D σ H2) :
    tIfS (tOr (tNot (tTest (tCB (rAll K) (tCons tl tNil)))) (tNot (tTest (tCall sp [] E0 as)))) tu tw D σ H := h _ fun D' H1 hD g => by
  refine ⟨D', List.replicate 30 true, rfl, SqL.of (by rw [List.map_replicate]; exact hD), ?_⟩
  rw [show (List.replicate 30 true).all id = true from rfl]
  refine ⟨true, rfl, ?_⟩
  exact h2 H1 g _ fun H2 g2 => ⟨true, rfl, k H2 g2⟩
end
section
variable {P : Program} {w : World} {K : PySem.W.Frag} {mg : Str → Option Value} {base : Heap} {CN : Addr}
abbrev sFine : Stmt := top 77
theorem scFine : FnScope ["_law_pot_here", "_law_told", "_law_st", "_law_row", "_law_routers", "_law_world_here", "_law_other", "_law_tables_here", "_law_others", "_law_turn"] ["_law_pot_here"] (defScope sFine) := ⟨rfl, rfl, rfl, by decide +kernel, rfl, by decide +kernel, by decide +kernel⟩
def spFine : Sp := fun vs H Q _ => ∃ (p : Addr) (n : Nat), vs = [.ref p] ∧ Pot p n H ∧ n + 1000000 ≤ 10 ^ 15 ∧ ∀ H', SmP p H H' → Pot p (n + 1000000) H' → Q (.bl true) H'
theorem cal_fine (D : Std K mg "_law_fine" sFine) (T : Gc mg) (C_law_pair : Cal P w K mg base "_law_pair" ["_law_pot_here", "_law_least", "_law_most", "_law_more"] 5 spPair) (C_law_made : Cal P w K mg base "_law_made" ["_law_world_here"] 7 (spMade CN)) (Crounds : Cal P w K mg base "rounds" ["old", "new"] 7 (spRounds CN)) (C_law_deed : Cal P w K mg base "_law_deed" ["_law_pot_here", "_law_st", "_law_told"] 4 spDeed) (C_law_ended : Cal P w K mg base "_law_ended" ["_law_pot_here", "_law_st", "_law_told"] 4 spEnded) : Cal P w K mg base "_law_fine" ["_law_pot_here"] 8 spFine := by
  refine D.cal scFine (fun vs H Q E h => ?_) (fun _ _ _ _ _ _ us hl => match us, hl with | [_], _ => rfl) (fun f cdv A outer s H vs Q E hr h => ?_)
  · obtain ⟨p, n, rfl, _⟩ := h
    rfl
  · obtain ⟨p, n, rfl, hp, hn, k⟩ := h
    have nd := scFine.nd
    have hu := hu_of hr
    refine ⟨_, (pss_cons (ps_asg (pe_cal C_law_pair (hr.mono (by decide)) (pa_cons (pv 0) (pa_cons pe_int (pa_cons pe_int (pa_cons pe_int pa_nil))))) (k_tgT (K := K) (n := 5) rfl (pgs_cons (pg_name (i := 4) nd rfl (Or.inl rfl)) (pgs_cons (pg_name (i := 5) nd rfl (Or.inl rfl)) (pgs_cons (pg_name (i := 6) nd rfl (Or.inl rfl)) (pgs_cons (pg_name (i := 7) nd rfl (Or.inl rfl)) (pgs_cons (pg_name (i := 8) nd rfl (Or.inl rfl)) pgs_nil)))))))
 (pss_cons (ps_set (i := 1) nd rfl (Or.inl rfl) (pe_cal Crounds (hr.mono (by decide)) (pa_cons (pe_cal C_law_made (hr.mono (by decide)) (pa_cons (pv 5) pa_nil)) (pa_cons (pe_cal C_law_made (hr.mono (by decide)) (pa_cons (pv 6) pa_nil)) pa_nil))))
 (pss_cons (ps_if (pt_cmpR op_ne (pe_ix (k_ixT (K := K)) (pv 1) pe_int (fun _ _ => rfl)) pe_str (nomark _)) (pss_one (ps_ret (pe_cmpR op_eq (pe_ix (k_ixT (K := K)) (pv 1) pe_int (fun _ _ => rfl)) pe_str (nomark _)))) pss_nil)
 (pss_cons (ps_set (i := 2) nd rfl (Or.inr rfl) (pe_disp (pps_cons pe_str (pv 4) (pps_cons pe_str (pv 7) (pps_cons pe_str (pv 8) (pps_cons pe_str (pe_lst pa_nil) (pps_cons pe_str (pe_lst pa_nil) pps_nil))))) (by rfl) (by rfl) (fun z => by cases z) (by decide)))
 (pss_cons (ps_for PassesOwn.never rfl (k_piT (K := K) (pe_ix (k_ixT (K := K)) (pv 1) pe_int (fun _ _ => rfl))) (pg_name (i := 3) nd rfl (Or.inr rfl))
 (pss_one (ps_if (PW.pt (pw_or (pt_not (pt_val (pe_callB (k_all (K := K) rfl) (by rfl) T.b.all (by decide +kernel) (pa_cons (pe_lc (own := [("_law_turn", 9)]) rfl nd (pi_range1 (by rfl) T.b.range (pa_cons pe_int pa_nil)) (blkOk_by (by kernel_rfl)) (fun _ _ _ _ _ => (pg_name (i := 9) nd rfl (Or.inl rfl))) (fun _ _ _ _ _ => pts_nil) (fun _ _ _ _ _ => (pe_cal C_law_deed (hr.mono (by decide)) (pa_cons (pv 0) (pa_cons (pv 2) (pa_cons (pv 3) pa_nil)))))) pa_nil)))) (pw_or1 (pt_not (pt_val (pe_cal C_law_ended (hr.mono (by decide)) (pa_cons (pv 0) (pa_cons (pv 2) (pa_cons (pv 3) pa_nil))))))))) (pss_one (ps_ret pe_bl)) pss_nil)))
 (pss_one (ps_ret (pe_cmpR (k_eqD (K := K) hr.units) (pe_ssS (K := K) rfl hr.units (by rfl) T.b.sorted (by rfl) T.b.set (pe_dget hu (pv 2) pe_str (fun _ _ => rfl))) (pe_callTy (k_lst (K := K)) (by rfl) T.b.list (by decide +kernel) (pa_cons (pv 4) pa_nil)) (nomark _))))))))), ?_⟩
    -- the pair
    refine s_asgM (p := p) (m := n + 300) (P := fun v H' => ∃ R ls ls', WdOk R ls ∧ WdOk R ls' ∧ PairP R ls ls' v H') (em_call (Ps := [Ex (.ref p), Ex (.int 2), Ex (.int 5), Ex (.int 4)]) (ema_ev (ea_x (ev_varX rfl) (ea_x (ev_c fun _ => rfl) (ea_x (ev_c fun _ => rfl) (ea_x (ev_c fun _ => rfl) ea_nil)))) hp) ?_) fun v H1 s1 hp1 ⟨R, ls, ls', w1, w2, t, xs, e, hT, v4, r4, e4, q4, v5, r5, e5, q5, v6, r6, e6, q6, v7, r7, e7, q7, v8, r8, e8, q8, e9⟩ => ?_
    · rintro vs H1 s1 hp1 ⟨v, r, rfl, rfl, u, r2, rfl, rfl, u3, r3, rfl, rfl, u4, r4, rfl, rfl, rfl⟩ Q q
      exact ⟨p, n, rfl, hp1, by omega, fun v H2 R ls ls' s2 hp2 w1 w2 h => q v H2 s2 hp2 ⟨R, ls, ls', w1, w2, h⟩⟩
    subst e9 e8 e7 e6 e5 e4 e
    refine ⟨t, _, rfl, SqT.of hT, rfl, _, _, rfl, _, _, rfl, _, _, rfl, _, _, rfl, _, _, rfl, rfl, ?_⟩
    refine nx_of ?_
    have five := w1.five
    have sok : ∀ x ∈ R, PyData.strOk x = true := fun x hx => (w1.r.nm x hx).ok
    -- rounds
    have made : ∀ {i : Nat} {v : V} {l : List Lk} {σ : L2.St}, σ[i]? = some (some v) → Rp H1 v (worldD R l) → WdOk R l → Ev (tCall (spMade CN) [] E0 (tCons (tVar i) tNil)) σ H1 (NetD CN R l) := fun {i v l σ} e r wd => ev_call (Ps := [Dd (worldD R l)]) (ea_d (ev_varD e r) ea_nil) fun vs H3 s3 ⟨v, r, e1, p1, e2⟩ Q q => by
      subst e1 e2
      exact ⟨v, R, l, rfl, p1, wd, q⟩
    refine s_set (P := RndR R (tblF R (lens ls)) (tblF R (lens ls'))) (ev_call (Ps := [NetD CN R ls, NetD CN R ls']) (ea_cons (made rfl q5 w1) (stb_net _ _ _) (ea_cons (made rfl q6 w2) (stb_net _ _ _) ea_nil)) ?_) fun v1 H2 s2 p1 => ?_
    · rintro vs H2 s2 ⟨v, r, rfl, p1, u, r2, rfl, p2, rfl⟩ Q q
      exact ⟨v, u, R, ls, ls', rfl, p1, p2, five, w1.l.few, w2.l.few, sok, q⟩
    refine nx_of ?_
    have tR : ∀ (l : Le) x d, ∀ y ∈ tblF R l x d, y ∈ R := fun l x d y hy => nexts_sub hy
    have tt := tR (lens ls)
    have oo := tR (lens ls')
    generalize tblF R (lens ls) = tf at q7 p1 tt
    generalize tblF R (lens ls') = of at q8 p1 oo
    have hp2 := hp1.sm s2
    have r42 := Rp.sm q4 s2
    rcases p1 with ⟨ch, p1, chn, cl⟩ | ⟨ds, p1⟩
    · -- rounds are told
      refine s_if (b := false) (et_is (et_test (ev_neS (x := "rounds") (y := "rounds") (ev_ixT (j := 0) (ev_varD rfl p1) ev_int rfl rfl) ev_str)) (by simp)) (fun e => by cases e) fun _ H3 s3 => ?_
      refine nx_of ?_
      have hp3 := hp2.sm s3
      refine fun S hS => ⟨v4, rfl, v7, rfl, v8, rfl, by show 0 ≤ sizeLine; decide, fun L hL => ⟨by show 0 ≤ sizeLine; decide, fun B hB => ?_⟩⟩
      have nLS : L ≠ S := fun z => by rw [z, upd_same] at hL; cases hL
      have hL3 : H3 L = none := by rw [upd_ne nLS] at hL; exact hL
      have nBL : B ≠ L := fun z => by rw [z, upd_same] at hB; cases hB
      have hB1 : (upd H3 S (.dK [])) B = none := by rw [upd_ne nBL] at hB; exact hB
      have nBS : B ≠ S := fun z => by rw [z, upd_same] at hB1; cases hB1
      have hB3 : H3 B = none := by rw [upd_ne nBS] at hB1; exact hB1
      refine ⟨by rw [upd_ne (Ne.symm nBS), upd_ne (Ne.symm nLS)]; exact upd_same, stK v4 v7 v8 L B, rfl, by show 5 ≤ 15; decide, ?_⟩
      rw [show mergeK [] (stK v4 v7 v8 L B) = stK v4 v7 v8 L B from by rfl]
      have sD : Same H3 (upd (upd (upd (upd H3 S (.dK [])) L (.lst [])) B (.lst [])) S (.dK (stK v4 v7 v8 L B))) := fun a u e => by
        have n1 := ne_of_none e hS
        rw [upd_ne n1, upd_ne (ne_of_none e hB3), upd_ne (ne_of_none e hL3), upd_ne n1]
        exact e
      have eS : (upd (upd (upd (upd H3 S (.dK [])) L (.lst [])) B (.lst [])) S (.dK (stK v4 v7 v8 L B))) S = some (.dK (stK v4 v7 v8 L B)) := upd_same
      have eL : (upd (upd (upd (upd H3 S (.dK [])) L (.lst [])) B (.lst [])) S (.dK (stK v4 v7 v8 L B))) L = some (.lst []) := by
        rw [upd_ne nLS, upd_ne (Ne.symm nBL)]
        exact upd_same
      have eB : (upd (upd (upd (upd H3 S (.dK [])) L (.lst [])) B (.lst [])) S (.dK (stK v4 v7 v8 L B))) B = some (.lst []) := by
        rw [upd_ne nBS]
        exact upd_same
      generalize (upd (upd (upd (upd H3 S (.dK [])) L (.lst [])) B (.lst [])) S (.dK (stK v4 v7 v8 L B))) = H4 at sD eS eL eB
      have s24 := s3.trans sD
      have st : Sta ⟨R, tf, of, H3, p, S, L, v4, v7, v8⟩ B [] [] (n + 300) H4 := ⟨.of sD, hp3.sm sD, eS, r42.sm s24, stb_tb _ _ _ _ _ (s2.trans s24) q7, stb_tb _ _ _ _ _ (s2.trans s24) q8, eL, eB, (fun q hq => by cases hq), by simp, Ne.symm nBL, (fun q hq => by cases hq), hS, hL3, hB3, (fun q hq => by cases hq)⟩
      refine nx_of ?_
      obtain ⟨eM, cg⟩ := chn_at chn
      -- for row
      refine s_forT (ds := ch.map tupS) (ev_ixT (j := 1) (ev_varD rfl (p1.sm s24)) ev_int rfl rfl) (fun H5 i σ' H' => ∃ a3 B Ln, σ' = [some (.ref p), some v1, some (.ref S), a3, some v4, some v5, some v6, some v7, some v8, none] ∧ Tk H5 H' ∧ Sta ⟨R, tf, of, H3, p, S, L, v4, v7, v8⟩ B Ln [] (n + 300 + 300 * i) H' ∧ (∀ x, x ∈ Ln ↔ x ∈ momAt R (ch.take i)) ∧ Ln.length ≤ 35 * i)
        (fun H5 s5 => ⟨_, B, [], rfl, tk_same (Same.refl _), st.sm s5, (fun x => by rw [List.take_zero] <;> rfl), Nat.zero_le _⟩) (fun H5 i σ' H' s5 ⟨_, _, _, _, t, _⟩ => t) ?_ ?_
      · rintro H5 i d v σ' H' s5 hd ⟨a3, B', Ln, rfl, t5, st5, hLn, hl⟩ rv
        rw [List.getElem?_map] at hd
        cases hk : ch[i]? with
        | none => rw [hk] at hd; cases hd
        | some s0 =>
          rw [hk] at hd
          cases hd
          have il : i < ch.length := (List.getElem?_eq_some_iff.mp hk).1
          obtain ⟨g1, g2, g3⟩ := cg i s0 hk
          have sl : s0.length ≤ 5 := Nat.le_trans g2.length_le five
          have rn : Rnd R tf of (momAt R (ch.take i)) s0 := ⟨fun x hx => g2.subset hx, g1, tt, oo, g3, five, sl, sok⟩
          have bt : Btw R (momAt R (ch.take i)) s0 Ln := Btw.start momAt_sub hLn
          refine s_ifRow (fun H6 => ∃ Ln' qs', Sta ⟨R, tf, of, H3, p, S, L, v4, v7, v8⟩ B' Ln' qs' (n + 300 + 300 * i + 90) H6 ∧ Btw R (momAt R (ch.take i)) s0 Ln' ∧ (∀ q ∈ qs', Way R tf of (momAt R (ch.take i)) s0 q.2) ∧ qs'.length ≤ 30 ∧ Ln'.length ≤ Ln.length + 30 ∧ Tk H' H6)
            (fun H6 => ∃ B2 Ln2, Sta ⟨R, tf, of, H3, p, S, L, v4, v7, v8⟩ B2 Ln2 [] (n + 300 + 300 * i + 240) H6 ∧ (∀ x, x ∈ Ln2 ↔ x ∈ tog R (momAt R (ch.take i)) s0) ∧ Ln2.length ≤ Ln.length + 35 ∧ Tk H' H6) (fun Q q => ?_) (fun H6 ⟨Ln', qs', st6, bt6, wy6, l1, l2, t6⟩ Q q => ?_) fun H6 ⟨B2, Ln2, st6, hm, l2, t6⟩ => ?_
          · exact deeds st5 (by omega) rn bt (by omega) rv fun D H6 Ln' qs' hD st6 bt6 wy6 l1 l2 t6 => q D H6 hD ⟨Ln', qs', st6, bt6, wy6, l1, l2, t6⟩
          · refine ⟨_, rfl, _, rfl, _, rfl, ?_⟩
            refine ⟨SC.at_ ⟨R, tf, of, H3, p, S, L, v4, v7, v8⟩ B' qs' H6, B', Ln', qs', _, v, momAt R (ch.take i), s0, rfl, rv.up t6, st6.rebase, by omega, rn, bt6, wy6, by omega, fun H7 B7 st7 => ?_⟩
            obtain ⟨st8, _, t8⟩ := st6.back st7
            exact q H7 ⟨B7, Ln' ++ s0, st8.mono (by omega), bt6.fin rn.sub, by rw [List.length_append]; omega, t6.trans t8⟩
          · refine (show ∃ a3 B Ln, _ ∧ Tk H5 H6 ∧ Sta ⟨R, tf, of, H3, p, S, L, v4, v7, v8⟩ B Ln [] (n + 300 + 300 * (i + 1)) H6 ∧ (∀ x, x ∈ Ln ↔ x ∈ momAt R (ch.take (i + 1))) ∧ Ln.length ≤ 35 * (i + 1) from ⟨_, B2, Ln2, rfl, t5.trans t6, st6.mono (by omega), fun x => ?_, by omega⟩)
            rw [take_succ hk, momAt_snoc]
            exact hm x
      · rintro H5 σ' H' s5 ⟨a3, B', Ln, rfl, t5, st5, hLn, hl⟩
        rw [List.length_map] at st5 hLn
        rw [List.take_length, ← eM] at hLn
        refine nx_of ?_
        have e1 : Ev _ [some (.ref p), some v1, some (.ref S), a3, some v4, some v5, some v6, some v7, some v8, none] H' (Ls (R.map PyData.str)) := (ev_ssSU (K := K) (U := R) (ev_exL st5.l (ev_sL st5 (ev_varX (i := 2) rfl))) (by omega) (fun x hx => (hLn x).mp hx)).imp fun v H'' s'' ⟨ys, l6, asc, hm⟩ => by
          have : ys = R := asc_eq asc w1.r.asc fun z => (hm z).trans (hLn z)
          rw [this] at l6
          exact l6
        refine s_ret (P := Dd (.bool true)) (ev_is (ev_eqD (d := .list (R.map PyData.str)) (e := .list (R.map PyData.str)) e1 (stb_l _) (ev_listT (ev_varD rfl st5.r)) (fun _ _ p => dp_ls p) (fun _ _ p => dp_ls p) (shaped_lstS sok) (shaped_lstS sok)) (by rw [eqv_lstS]; simp)) fun v H6 s6 p6 => ?_
        rw [rp_bl p6]
        exact k H6 (((s1.trans (.of (s2.trans s3))).trans st5.fr).trans (.of s6)) ((st5.pot.sm s6).mono (by omega))
    · -- none
      refine s_if (b := true) (et_is (et_test (ev_neS (x := "none") (y := "rounds") (ev_ixT (j := 0) (ev_varD rfl p1) ev_int rfl rfl) ev_str)) (by decide)) (fun _ H3 s3 => ?_) fun e => by cases e
      refine s_ret (P := Dd (.bool true)) (ev_is (ev_eqS (x := "none") (y := "none") (ev_ixT (j := 0) (ev_varD rfl (p1.sm s3)) ev_int rfl rfl) ev_str) (by simp)) fun v H4 s4 p4 => ?_
      rw [rp_bl p4]
      exact k H4 (s1.trans (.of ((s2.trans s3).trans s4))) (((hp2.sm s3).sm s4).mono (by omega))
end
end Qt
/-! QLs: law. -/
namespace Qt
open PySem PySem.Spec PyProof.Rows L2
theorem all_rep : ∀ N : Nat, (List.replicate N true).all id = true
  | 0 => rfl
  | N + 1 => by
    rw [List.replicate_succ, List.all_cons, all_rep N] <;> rfl
theorem Pot.smx {p q : Addr} {n : Nat} {H H' : Hp} (h : Pot q n H) (x : SmX p H H') (ne : q ≠ p) : Pot q n H' := by
  obtain ⟨o, s, c, e, r⟩ := h
  exact ⟨o, s, c, x _ _ ne e, r⟩
section
variable {K : PySem.W.Frag} {σ : L2.St} {H : Hp} {tl : TE} {D : Ends}
theorem s_retAll (G : Hp → Prop) (h : ∀ Q : VK, (∀ D H' N, H' D = some (.lst (List.replicate N (.bl true))) → G H' → Q (.ref D) H') → tl σ H Q) (k : ∀ H', G H' → D.rt (.bl true) H') : tRet (tCB (rAll K) (tCons tl tNil)) D σ H := h _ fun D' H' N hD g =>
  ⟨D', List.replicate N true, rfl, SqL.of (by rw [List.map_replicate]; exact hD), by rw [all_rep]; exact k H' g⟩
end
theorem FunD.okB {P : Program} {w : World} {K : PySem.W.Frag} {mg : Str → Option Value} {base : Heap} {x q : Str} {ps N : List Str} {k : Nat} {sp : Sp} {st : Stmt} {f : Addr} {fd : FuncData} (F : FunD K x q (defArgs st) (defBody st) (defScope st) [] [] f fd) (S : FnScope N ps (defScope st)) (len : ∀ vs H Q E, sp vs H Q E → vs.length = ps.length)
    (hbody : ∀ (cdv : Value) (A : Around) (outer : List Env) (s : Shared) (H : Hp) (vs : List V) (Q : VK) (E : XK), Room k (A.deeper (envOfC q (defScope st) s.heap.objs.size f cdv)) → sp vs H Q E →
      ∃ t, PSs (cxOf CX0 P w K mg base N q (defScope st) f cdv A outer s H E).nox (defBody st) t ∧ t { nx := fun _ H' => Q .non H', rt := Q } (start N vs) H) : FnOk P w K mg base CX0 (k + 1) f fd ps sp :=
  F.ok S len fun cdv A outer s H vs Q E hr h => by
    obtain ⟨t, h1, h2⟩ := hbody cdv A outer s H vs Q E hr h
    exact ⟨t, h1.nox, h2⟩
section
variable {P : Program} {w : World} {K : PySem.W.Frag} {mg : Str → Option Value} {base : Heap}
abbrev sLaw : Stmt := top 78
theorem scLaw : FnScope ["_law_script", "_law_pots_here", "_law_pot_here"] ["_law_script"] (defScope sLaw) := ⟨rfl, rfl, rfl, by decide +kernel, rfl, by decide +kernel, by decide +kernel⟩
def spLaw (K : PySem.W.Frag) : Sp := fun vs H Q _ => ∃ (v1 : V) (cs : List Int), vs = [v1] ∧ ScrP K cs v1 H ∧ ∀ H', Same H H' → Q (.bl true) H'
theorem ok_law {f : Addr} {fd : FuncData} (F : FunD K "law" "law" (defArgs sLaw) (defBody sLaw) (defScope sLaw) [] [] f fd) (T : Gc mg) (C_law_pots : Cal P w K mg base "_law_pots" ["_law_script", "_law_most"] 2 (spPots K)) (C_law_fine : Cal P w K mg base "_law_fine" ["_law_pot_here"] 8 spFine) : FnOk P w K mg base CX0 9 f fd ["_law_script"] (spLaw K) := by
  refine FunD.okB F scLaw (fun vs H Q E h => ?_) (fun cdv A outer s H vs Q E hr h => ?_)
  · obtain ⟨v1, cs, rfl, _⟩ := h
    rfl
  · obtain ⟨v1, cs, rfl, hl, k⟩ := h
    have nd := scLaw.nd
    refine ⟨_, (pss_cons (ps_set (i := 1) nd rfl (Or.inl rfl) (pe_cal C_law_pots (hr.mono (by decide)) (pa_cons (pv 0) (pa_cons pe_int pa_nil))))
 (pss_one (ps_ret (pe_callB (k_all (K := K) rfl) (by rfl) T.b.all (by decide +kernel) (pa_cons (pe_lc (own := [("_law_pot_here", 2)]) rfl nd (k_piL (K := K) (pe_op op_rep (pv 1) pe_int)) (blkOk_by (by kernel_rfl)) (fun _ _ _ _ _ => (pg_name (i := 2) nd rfl (Or.inl rfl))) (fun _ _ _ _ _ => pts_nil) (fun _ _ _ _ _ => (pe_cal C_law_fine (hr.mono (by decide)) (pa_cons (pv 2) pa_nil)))) pa_nil))))), ?_⟩
    refine s_set (P := PotsP H 3 0) (ev_call (Ps := [ScrP K cs, Ex (.int 3)]) (ea_cons (ev_var rfl hl (stb_scr _ _)) (stb_scr _ _) (ea_x (ev_c fun _ => rfl) ea_nil)) ?_) fun vp H1 s1 ⟨a, ps, e, ha, hp, l3, nf⟩ => ?_
    · rintro vs H2 s2 ⟨v, r, rfl, p1, u, r2, rfl, rfl, rfl⟩ Q q
      exact ⟨v, cs, rfl, p1, fun v H3 s3 ⟨a, ps, e, h1, h2, h3, h4⟩ => q v H3 s3 ⟨a, ps, e, h1, h2, h3, fun p hp => none_of s2 (h4 p hp)⟩⟩
    subst e
    refine nx_of ?_
    refine s_retAll (fun H' => Same H H') (fun Q q => ?_) fun H' s => k H' s
    have e9 : (List.replicate (3 : Int).toNat (ps.map V.ref)).flatten = ((List.replicate 3 ps).flatten).map V.ref := by
      rw [List.map_flatten, List.map_replicate] <;> rfl
    have l9 : ((List.replicate 3 ps).flatten).length ≤ 9 := by
      simp only [List.replicate, List.flatten_cons, List.flatten_nil, List.length_append, List.length_nil]
      omega
    have m9 : ∀ p ∈ (List.replicate 3 ps).flatten, p ∈ ps := fun p hp => by
      obtain ⟨l, hl, h⟩ := List.mem_flatten.mp hp
      rw [(List.mem_replicate.mp hl).2] at h
      exact h
    refine ⟨.ref a, rfl, a, 3, ps.map V.ref, rfl, rfl, ha, by decide, by decide, ?_, fun A9 h9 => ?_⟩
    · rw [List.length_map]
      show ps.length * 3 ≤ sizeLine
      exact Nat.le_trans (show ps.length * 3 ≤ 9 by omega) (by decide)
    rw [e9]
    generalize (List.replicate 3 ps).flatten = ps9 at l9 m9
    have s2 : Same H1 (upd H1 A9 (.lst (ps9.map V.ref))) := same_new h9
    have hA9 : (upd H1 A9 (.lst (ps9.map V.ref))) A9 = some (.lst (ps9.map V.ref)) := upd_same
    have nA9 : ∀ p ∈ ps9, A9 ≠ p := fun p hp9 z => by
      obtain ⟨_, _, _, e, _⟩ := hp p (m9 p hp9)
      rw [← z, h9] at e
      cases e
    generalize upd H1 A9 (.lst (ps9.map V.ref)) = H2 at s2 hA9
    refine ⟨A9, rfl, ⟨_, SqL.of hA9⟩, fun D hD => ?_⟩
    have nDA : D ≠ A9 := fun z => by rw [z, hA9] at hD; cases hD
    have nDp : ∀ p ∈ ps9, D ≠ p := fun p hp9 z => by
      obtain ⟨_, _, _, e, _⟩ := (hp p (m9 p hp9)).sm s2
      rw [← z, hD] at e
      cases e
    have s12 := s1.trans s2
    have nDH : H D = none := none_of s12 hD
    refine lc_list (K := K) (a := A9) (xs := ps9.map V.ref) (fun i H' => H' A9 = some (.lst (ps9.map V.ref)) ∧ H' D = some (.lst (List.replicate i (.bl true))) ∧ Same H H' ∧ ∀ p ∈ ps9, Pot p (1000000 * i) H') ⟨by rw [upd_ne (Ne.symm nDA)]; exact hA9, upd_same, s12.trans (same_new hD), fun p hp9 => ((hp p (m9 p hp9)).sm s2).sm (same_new hD)⟩ (fun i H' _ p => SqL.of p.1) (fun i x H' hi pv => ⟨rfl, ?_⟩) (fun H' pv => q D H' _ pv.2.1 pv.2.2.1)
    obtain ⟨p1, p2, p3, p4⟩ := pv
    rw [List.getElem?_map] at hi
    cases hk : ps9[i]? with
    | none => rw [hk] at hi; cases hi
    | some p =>
      rw [hk] at hi
      cases hi
      have hp9 := List.mem_of_getElem? hk
      have il : i < ps9.length := (List.getElem?_eq_some_iff.mp hk).1
      refine ⟨_, rfl, ?_⟩
      refine ⟨p, 1000000 * i, rfl, p4 p hp9, by omega, fun H3 s3 hp3 => ?_⟩
      have e3 := s3.x D _ (nDp p hp9) p2
      refine ⟨_, e3, ?_, ?_, ?_, fun b u e => ?_, fun q' hq => ?_⟩
      · rw [List.length_replicate]
        exact Nat.lt_of_lt_of_le (show i < 1000 by omega) (by decide)
      · rw [upd_ne (Ne.symm nDA)]
        exact s3.x _ _ (nA9 p hp9) p1
      · rw [List.replicate_succ']
        exact upd_same
      · have n1 : b ≠ p := fun z => by rw [z, nf p (m9 p hp9)] at e; cases e
        rw [upd_ne (ne_of_none e nDH)]
        exact s3.x _ _ n1 (p3 _ _ e)
      · by_cases z : q' = p
        · subst z
          exact (hp3.updL (nDp q' hp9)).mono (by omega)
        · exact (((p4 q' hq).smx s3.x z).updL (nDp q' hq)).mono (by omega)
end
end Qt
/-! Qhk: what the head's facts give. -/
namespace Qt
open PySem PySem.Spec PyProof.Rows L2
section
variable {fa : List He.Fa} {fn : List He.DefD} {K : PySem.W.Frag}
variable {h : Heap} {mg : Str → Option Value}
theorem std_of (X : K.In h) (G : h.Ns mainGlobals mg) (c : He.SaysD fa fn K) (i j : Nat) {x : Str} {st : Stmt} (hi : fn[i]? = some ⟨(x, none), x, x, defArgs st, defBody st, defScope st, [], []⟩) (hj : fa[j]? = some (.glo x)) : Std K mg x st := by
  obtain ⟨fd, F⟩ := c.def_ i hi
  exact ⟨_, fd, F, He.glo_ok X G (c.fact j hj)⟩
theorem mtd_of (c : He.SaysD fa fn K) (i j : Nat) {C x q : Str} {st : Stmt} (hi : fn[i]? = some ⟨(C, some x), x, q, defArgs st, defBody st, defScope st, [], []⟩) (hj : fa[j]? = some (.meth C x)) : Mtd K (He.ga K C) x q st := by
  obtain ⟨fd, F⟩ := c.def_ i hi
  exact ⟨_, fd, He.meth_ok (c.fact j hj), F⟩
end
/-! getters -/
section
variable {P : Program} {w : World} {K : PySem.W.Frag} {mg : Str → Option Value} {base : Heap} {C : Addr}
abbrev sPrR : Stmt := netS 1
abbrev sPrL : Stmt := netS 2
theorem scPrR : FnScope ["self"] ["self"] (defScope sPrR) := ⟨rfl, rfl, rfl, by decide +kernel, rfl, by decide +kernel, by decide +kernel⟩
theorem scPrL : FnScope ["self"] ["self"] (defScope sPrL) := ⟨rfl, rfl, rfl, by decide +kernel, rfl, by decide +kernel, by decide +kernel⟩
theorem getR_ok {p a : Addr} {fd : FuncData} (hp : PropOf K C "routers" p a) (F : FunD K "routers" "Net.routers" (defArgs sPrR) (defBody sPrR) (defScope sPrR) [] [] a fd) (c : Cls K C) (n : NoAttr K C "own_routers") : PrG P w K mg base C "routers" "own_routers" := by
  refine ⟨p, a, fd, hp, ?_, F.bindsN fun _ _ _ _ _ _ us hl => match us, hl with | [_], _ => rfl⟩
  refine FunD.okB F scPrR (fun vs H Q E h => ?_) (fun cdv A outer s H vs Q E hr h => ?_)
  · obtain ⟨a, dx, fs, v, rfl, _⟩ := h
    rfl
  · obtain ⟨a, dx, fs, v, rfl, ea, l, q⟩ := h
    have nd := scPrR.nd
    refine ⟨_, (pss_one (ps_ret (k_fld (K := K) (pv 0)))), ?_⟩
    exact ⟨.ref a, rfl, a, C, dx, fs, v, rfl, ea, c, n, l, q⟩
theorem getL_ok {p a : Addr} {fd : FuncData} (hp : PropOf K C "links" p a) (F : FunD K "links" "Net.links" (defArgs sPrL) (defBody sPrL) (defScope sPrL) [] [] a fd) (c : Cls K C) (n : NoAttr K C "own_links") : PrG P w K mg base C "links" "own_links" := by
  refine ⟨p, a, fd, hp, ?_, F.bindsN fun _ _ _ _ _ _ us hl => match us, hl with | [_], _ => rfl⟩
  refine FunD.okB F scPrL (fun vs H Q E h => ?_) (fun cdv A outer s H vs Q E hr h => ?_)
  · obtain ⟨a, dx, fs, v, rfl, _⟩ := h
    rfl
  · obtain ⟨a, dx, fs, v, rfl, ea, l, q⟩ := h
    have nd := scPrL.nd
    refine ⟨_, (pss_one (ps_ret (k_fld (K := K) (pv 0)))), ?_⟩
    exact ⟨.ref a, rfl, a, C, dx, fs, v, rfl, ea, c, n, l, q⟩
end
end Qt
/-! Qhd: the facts in use (printed by genhead.py). -/
namespace Qt
open PySem PySem.Spec PyProof.Rows L2
theorem facts {P : Program} {w : World} {K : PySem.W.Frag} {h : Heap} {mg : Str → Option Value} {f : Addr} (X : K.In h) (G : h.Ns mainGlobals mg) (hfa : mg ("law" : Str) = some (.ref f)) (c : SaysP fas fns prs K) :
    ∃ fd : FuncData, (∀ (s : Shared) (v : Value), BindsTo s fd ⟨[v], []⟩ [("_law_script", v)]) ∧ ∀ base : Heap, K.In base → base.Ns mainGlobals mg → FnOk P w K mg base CX0 9 f fd ["_law_script"] (spLaw K) := by
  have d := c.d
  obtain ⟨fd, F⟩ := d.def_ 57 (d := ⟨("law", none), "law", "law", defArgs sLaw, defBody sLaw, defScope sLaw, [], []⟩) rfl
  have e := hfa.symm.trans (He.glo_ok X G (d.fact 81 (f := .glo "law") rfl))
  cases e
  have b := FunD.bindsA (ps := ["_law_script"]) F fun _ _ _ _ _ _ us hl => match us, hl with | [_], _ => rfl
  refine ⟨fd, fun s v => b s [v] rfl, fun base _ _ => ?_⟩
  have T : Gc mg := ⟨⟨He.free_ok X G (d.fact 57 rfl), He.free_ok X G (d.fact 58 rfl), He.free_ok X G (d.fact 59 rfl), He.free_ok X G (d.fact 60 rfl), He.free_ok X G (d.fact 61 rfl), He.free_ok X G (d.fact 62 rfl), He.free_ok X G (d.fact 63 rfl), He.free_ok X G (d.fact 64 rfl), He.free_ok X G (d.fact 65 rfl), He.free_ok X G (d.fact 66 rfl), He.free_ok X G (d.fact 67 rfl), He.free_ok X G (d.fact 68 rfl), He.free_ok X G (d.fact 69 rfl), He.free_ok X G (d.fact 70 rfl), He.free_ok X G (d.fact 71 rfl), He.free_ok X G (d.fact 72 rfl)⟩, He.str_ok X G (d.fact 73 rfl), He.int_ok X G (d.fact 74 rfl), He.int_ok X G (d.fact 75 rfl), He.int_ok X G (d.fact 76 rfl), He.int_ok X G (d.fact 77 rfl), He.int_ok X G (d.fact 78 rfl), He.str_ok X G (d.fact 79 rfl), He.str_ok X G (d.fact 80 rfl)⟩
  have cN : Cls K (He.ga K "Net") := He.cls_ok (d.fact 82 rfl)
  have cT : Cls K (He.ga K "Telling") := He.cls_ok (d.fact 83 rfl)
  have gN : mg "Net" = some (.ref (He.ga K "Net")) := He.glo_ok X G (d.fact 84 rfl)
  have gT : mg "Telling" = some (.ref (He.ga K "Telling")) := He.glo_ok X G (d.fact 85 rfl)
  have mkN := He.mkr_ok (d.fact 86 rfl)
  have mkT := He.mkr_ok (d.fact 87 rfl)
  have n1 : NoAttr K (He.ga K "Net") "own_routers" := He.noat_ok (d.fact 88 rfl)
  have n2 : NoAttr K (He.ga K "Net") "own_links" := He.noat_ok (d.fact 89 rfl)
  have n3 : NoAttr K (He.ga K "Telling") "own_routers" := He.noat_ok (d.fact 90 rfl)
  have n4 : NoAttr K (He.ga K "Telling") "own_tables" := He.noat_ok (d.fact 91 rfl)
  have n5 : NoAttr K (He.ga K "Telling") "own_others" := He.noat_ok (d.fact 92 rfl)
  obtain ⟨a1, f1, p1, F1⟩ := c.prop 0 (q := ⟨"Net", "routers", "Net.routers", defArgs sPrR, defBody sPrR, defScope sPrR⟩) rfl
  obtain ⟨a2, f2, p2, F2⟩ := c.prop 1 (q := ⟨"Net", "links", "Net.links", defArgs sPrL, defBody sPrL, defScope sPrL⟩) rfl
  have N : NetC P w K mg base (He.ga K "Net") := ⟨cN, n1, n2, getR_ok p1 F1 cN n1, getL_ok p2 F2 cN n2⟩
  have TC : TelC K (He.ga K "Telling") := ⟨cT, n3, n4, n5⟩
  have TM : TelM K mg (He.ga K "Telling") := ⟨⟨_, mkT⟩, gT⟩
  have h_is_integer := cal_is_integer (P := P) (w := w) (base := base) (std_of X G d 0 0 rfl rfl) T
  have h_is_from := cal_is_from (P := P) (w := w) (base := base) (std_of X G d 1 1 rfl rfl) T h_is_integer
  have h_is_name := cal_is_name (P := P) (w := w) (base := base) (std_of X G d 2 2 rfl rfl) T
  have h_is_one_of := cal_is_one_of (P := P) (w := w) (base := base) (std_of X G d 3 3 rfl rfl) T
  have h_is_tuple_of := cal_is_tuple_of (P := P) (w := w) (base := base) (std_of X G d 4 4 rfl rfl) T
  have h_is_tuple_to := cal_is_tuple_to (P := P) (w := w) (base := base) (std_of X G d 5 5 rfl rfl) T
  have h_ascT := cal_ascT (P := P) (w := w) (base := base) (std_of X G d 6 6 rfl rfl) T
  have h_is_ascending_of := cal_is_ascending_of (P := P) (w := w) (base := base) (std_of X G d 7 7 rfl rfl) T h_is_one_of h_ascT
  have h_ascL := cal_ascL (P := P) (w := w) (base := base) (std_of X G d 6 6 rfl rfl) T
  have h_are_routers := cal_are_routers (P := P) (w := w) (base := base) (std_of X G d 8 8 rfl rfl) T h_is_tuple_to h_is_name h_ascT
  have h_is_link := cal_is_link (P := P) (w := w) (base := base) (std_of X G d 9 9 rfl rfl) T h_is_tuple_of h_is_ascending_of h_is_from
  have h_are_links := cal_are_links (P := P) (w := w) (base := base) (std_of X G d 10 10 rfl rfl) T h_is_tuple_to h_is_link h_ascL
  have h_distances_to := cal_distances_to (P := P) (w := w) (base := base) (std_of X G d 11 11 rfl rfl) T
  have h_lengths_of := cal_lengths_of (P := P) (w := w) (base := base) (std_of X G d 12 12 rfl rfl) N
  have h_nexts_by := cal_nexts_by (P := P) (w := w) (base := base) (std_of X G d 13 13 rfl rfl) T
  have h_tables_by := cal_tables_by (P := P) (w := w) (base := base) (std_of X G d 14 14 rfl rfl) T h_distances_to h_nexts_by
  have h_next_tables := cal_next_tables (P := P) (w := w) (base := base) (std_of X G d 15 15 rfl rfl) N h_tables_by h_lengths_of
  have h_check_like := cal_check_like (P := P) (w := w) (base := base) (std_of X G d 16 16 rfl rfl) N
  have h_together := cal_together (P := P) (w := w) (base := base) (std_of X G d 17 17 rfl rfl) T
  have h_moments_of := cal_moments_of (P := P) (w := w) (base := base) (std_of X G d 18 18 rfl rfl) T
  have h_links_towards := cal_links_towards (P := P) (w := w) (base := base) (std_of X G d 19 19 rfl rfl) T
  have h_ranked := cal_ranked (P := P) (w := w) (base := base) (std_of X G d 20 20 rfl rfl) T
  have h_ring_in := cal_ring_in (P := P) (w := w) (base := base) (std_of X G d 21 21 rfl rfl) T
  have h_ring_for := cal_ring_for (P := P) (w := w) (base := base) (std_of X G d 22 22 rfl rfl) T h_links_towards h_ranked h_ring_in
  have h_turns := cal_turns (P := P) (w := w) (base := base) (std_of X G d 23 23 rfl rfl) T h_ring_for
  have h_loss_for := cal_loss_for (P := P) (w := w) (base := base) (std_of X G d 24 24 rfl rfl) T
  have h_loss := cal_loss (P := P) (w := w) (base := base) (std_of X G d 25 25 rfl rfl) T h_loss_for
  have h_mixed := cal_mixed (P := P) (w := w) (base := base) (std_of X G d 26 26 rfl rfl) T
  have h_is_sound := cal_is_sound (P := P) (w := w) (base := base) (mtd_of d 27 27 rfl rfl) TC h_mixed h_together h_turns h_loss
  have h_tel_init := cal_tel_init (P := P) (w := w) (base := base) (mtd_of d 28 28 rfl rfl) TC N h_check_like h_next_tables
  have h_rb := cal_rb (P := P) (w := w) (base := base) (mtd_of d 29 29 rfl rfl) TC T h_moments_of h_is_sound
  have h_led := cal_led (P := P) (w := w) (base := base) (mtd_of d 30 30 rfl rfl) TC T h_together h_rb
  have h_net_init := cal_net_init (P := P) (w := w) (base := base) (mtd_of d 31 31 rfl rfl) T N h_are_routers h_are_links
  have h_rounds := cal_rounds (P := P) (w := w) (base := base) (std_of X G d 32 32 rfl rfl) T TC TM N h_tel_init h_led
  have h_take := cal_take (P := P) (w := w) (base := base) (std_of X G d 33 33 rfl rfl) T
  have h_pot := cal_pot (P := P) (w := w) (base := base) (std_of X G d 34 34 rfl rfl) T
  have h_of := cal_of (P := P) (w := w) (base := base) (std_of X G d 35 35 rfl rfl) T h_take
  have h_turned := cal_turned (P := P) (w := w) (base := base) (std_of X G d 36 36 rfl rfl) T h_take
  have h_names := cal_names (P := P) (w := w) (base := base) (std_of X G d 37 37 rfl rfl) T h_take h_of
  have h_far := cal_far (P := P) (w := w) (base := base) (std_of X G d 38 38 rfl rfl) T h_take h_of
  have h_pairs := cal_pairs (P := P) (w := w) (base := base) (std_of X G d 39 39 rfl rfl) T h_take h_turned
  have h_world := cal_world (P := P) (w := w) (base := base) (std_of X G d 40 40 rfl rfl) T h_take h_names h_pairs h_far
  have h_made := cal_made (P := P) (w := w) (base := base) (std_of X G d 41 41 rfl rfl) T h_net_init ⟨_, mkN⟩ gN
  have h_with := cal_with (P := P) (w := w) (base := base) (std_of X G d 42 42 rfl rfl) T
  have h_without := cal_without (P := P) (w := w) (base := base) (std_of X G d 43 43 rfl rfl) T
  have h_shifted := cal_shifted (P := P) (w := w) (base := base) (std_of X G d 44 44 rfl rfl) T h_with h_without
  have h_lens := cal_lens (P := P) (w := w) (base := base) (std_of X G d 45 45 rfl rfl) T
  have h_far_from := cal_far_from (P := P) (w := w) (base := base) (std_of X G d 46 46 rfl rfl) T
  have h_ltables := cal_ltables (P := P) (w := w) (base := base) (std_of X G d 47 47 rfl rfl) T h_far_from
  have h_ltables_of := cal_ltables_of (P := P) (w := w) (base := base) (std_of X G d 48 48 rfl rfl) T h_ltables h_lens
  have h_near := cal_near (P := P) (w := w) (base := base) (std_of X G d 49 49 rfl rfl) T h_take h_of h_turned h_far h_shifted h_with h_without
  have h_pots := cal_pots (P := P) (w := w) (base := base) (std_of X G d 50 50 rfl rfl) T h_pot
  have h_pair := cal_pair (P := P) (w := w) (base := base) (std_of X G d 51 51 rfl rfl) T h_world h_near h_ltables_of
  have h_now := cal_now (P := P) (w := w) (base := base) (std_of X G d 52 52 rfl rfl) T
  have h_gone_on := cal_gone_on (P := P) (w := w) (base := base) (std_of X G d 53 53 rfl rfl) T h_now h_of
  have h_deed := cal_deed (P := P) (w := w) (base := base) (std_of X G d 54 54 rfl rfl) T h_take h_now h_of h_gone_on
  have h_ended := cal_ended (P := P) (w := w) (base := base) (std_of X G d 55 55 rfl rfl) T h_now h_gone_on
  have h_fine := cal_fine (P := P) (w := w) (base := base) (std_of X G d 56 56 rfl rfl) T h_pair h_made h_rounds h_deed h_ended
  exact ok_law F T h_pots h_fine
end Qt
set_option maxHeartbeats 0
/-! Qend: the law holds. -/
open PySem PySem.W PySem.Calls PyProof.Rows
theorem PySem.Challenge.cw_quietturns_k17_whole_rounds_played_holds : PySem.Challenge.rw_quietturns_k17_whole_rounds_played.Holds := by
  w_on; o_law
  refine HandSHeadRun.head_any (r := OpenLaw.row PySem.Challenge.rw_quietturns_k17_whole_rounds_played) (q := view (OpenLaw.row PySem.Challenge.rw_quietturns_k17_whole_rounds_played).prog [78]) (H := Qt.hk) (ob := Qt.ob) (M := 4000) (loose := Qt.loose) (d := HandSHeadRun.topDef (OpenLaw.row PySem.Challenge.rw_quietturns_k17_whole_rounds_played).prog 78) (kwd := []) Qt.ob_eq
    (by kernel_rfl) (fun s => by kernel_rfl) Qt.run (by kernel_rfl) (by kernel_rfl) (by kernel_rfl) (by rfl) (by first | assumption | decide +kernel) (by decide +kernel) ⟨rfl, rfl, rfl, rfl, rfl, by decide +kernel⟩ ?hw ?hc
  case hw => w_witness2
  case hc =>
    refine L2.walk_ofE (l := PySem.Challenge.rw_quietturns_k17_whole_rounds_played) (n := 63) (k := 9) (x := "_law_script") (CX := L2.CX0) rfl (by decide) (by kernel_rfl) ⟨rfl, by decide, by decide⟩ ?F (fun _ _ _ _ z => z)
    intro w mg fa h Y G hmg0
    obtain ⟨K, KX, c⟩ := Y
    have hmg : mg ("law" : PySem.Str) = some (.ref fa) := by
      have e : (HandSHeadRun.topDef (OpenLaw.row PySem.Challenge.rw_quietturns_k17_whole_rounds_played).prog 78).name = ("law" : PySem.Str) := by kernel_rfl
      rw [← e]
      exact hmg0
    obtain ⟨fd, hb, hF⟩ := Qt.facts (P := (PySem.Challenge.rw_quietturns_k17_whole_rounds_played).prog) (w := w) KX G hmg c
    exact ⟨K, fd, Qt.spLaw K, KX, hb, fun H a ns hl _ hS => ⟨.ref a, ns, rfl, ⟨a, rfl, hS⟩, fun _ _ => rfl⟩, hF⟩
